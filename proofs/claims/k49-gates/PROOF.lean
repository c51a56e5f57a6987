import PyProof.Rows.All
import Wide.All
import OpenK.AllK
import Wide.FinOn
import HandS.Base
import HandS.Call
import HandS.List
import HandS.Comp
import HandS.Dict
import HandS.Iter
import HandS.Text
import HandS.Evl
import HandS.TupAny
import KE.KeyNested
import HandS.Wide
import HandS.Steps
import HandS.Exc
import HandS.Words
import HandS.WordsExc
import PyProof.NeData
import HandS.OwnEq
import HandS.Property
import HandS.IsInst
import HandS.ExcInit
import HandS.Defaults
import KE.KOpsOwn
import PyProof.InstNe
import HandS.Head0
import HandS.ExcField
import HandS.ExcOwn
import HandS.Codes
import HandS.Conv
import HandS.Style
import KE.KStateDown
import HandS.Head1
import HandS.Head2
import HandS.HeadEnd
import HandS.HeadHook1
import HandS.HeadHook2
import HandS.EndBits
import HandS.TupMul
import KE.DataCmp
import KE.DatumOrd
import HandS.DictComp
import HandS.RaiseMore
import KE.DataEq
import HandS.Finally
import KE.GoesNew
import KE.GoesMore
import OpenK.KMeth
import HandS.Small
import HandS.TupSets
import HandS.Star
import PyProof.Rows.TupDisplay
import PySem.Challenge.RW_alsoshown_k49_gates
set_option Elab.async false
set_option linter.all false
set_option maxRecDepth 100000
set_option maxHeartbeats 4000000
/-! DA: a logic of data over the readings: frozen data, views, cells (own work). -/
namespace DL
open PySem L2

/-- data -/
inductive D where
  | non | bl (b : Bool) | int (i : Int) | str (s : Str)
  | tup (xs : List D) | lst (xs : List D) | dic (kvs : List (Key × D)) | dit (kvs : List (List Key × D))
  | ins (C : Addr) (fs : List (Str × D)) | ty (n : String) | adr (a : Addr)
  | din (w : World) (kvs : List (NestedKey × D))

/-! ### dicts whose keys are tuples of any depth -/
/-- an entry as it lies in the dict's object -/
def entN (w : World) (q : NestedKey × Addr × Value) : DictEntry := ⟨q.1.hash w, .ref q.2.1, q.2.2⟩
/-- the dict at a: its keys (each at its address), its values -/
def DnO (w : World) (a : Addr) (xs : List (NestedKey × Addr × V)) : HO := .ext fun h => xs.length ≤ sizeLine ∧ (a == sysModules) = false ∧ ∃ qs : List (NestedKey × Addr × Value),
  Paired (fun p q => p.1 = q.1 ∧ p.2.1 = q.2.1 ∧ RelV p.2.2 q.2.2) xs qs ∧ ∃ o es ep, h.get? a = some o ∧ o.ExactDict ∧ o.data = .dict es ep ∧ es.toList = qs.map (entN w) ∧ (qs.map (·.1)).Nodup
mutual
/-- a thing that is the key -/
def RkN (K : PySem.W.Frag) (F : Hp) : NestedKey → V → Prop
  | .none, v => v = .non
  | .num i, v => v = .int i
  | .text s, v => v = .str s
  | .tup ks, v => ∃ a xs, v = .ref a ∧ SqT K F a xs ∧ RkL K F ks xs
def RkL (K : PySem.W.Frag) (F : Hp) : List NestedKey → List V → Prop
  | [], xs => xs = []
  | k :: ks, xs => ∃ x ys, xs = x :: ys ∧ RkN K F k x ∧ RkL K F ks ys
end

mutual
def Rp (K : PySem.W.Frag) (F : Hp) : D → V → Prop
  | .non, v => v = .non
  | .bl b, v => v = .bl b
  | .int i, v => v = .int i
  | .str s, v => v = .str s
  | .ty n, v => v = .ty n
  | .adr a, v => v = .ref a
  | .tup ds, v => ∃ a xs, v = .ref a ∧ SqT K F a xs ∧ RpL K F ds xs
  | .lst ds, v => ∃ a xs, v = .ref a ∧ Rd F a (.lst xs) ∧ RpL K F ds xs
  | .dic ds, v => ∃ a xs, v = .ref a ∧ Rd F a (.dK xs) ∧ RpK K F ds xs
  | .dit ds, v => ∃ a xs, v = .ref a ∧ Rd F a (.dT xs) ∧ RpT K F ds xs
  | .ins C ds, v => ∃ a dx xs, v = .ref a ∧ Rd F a (.ins C dx xs) ∧ RpF K F ds xs
  | .din w ds, v => ∃ a xs, v = .ref a ∧ Rd F a (DnO w a xs) ∧ RpN K F ds xs
def RpN (K : PySem.W.Frag) (F : Hp) : List (NestedKey × D) → List (NestedKey × Addr × V) → Prop
  | [], xs => xs = []
  | (k, d) :: ds, xs => ∃ b x ys, xs = (k, b, x) :: ys ∧ (RkN K F k (.ref b) ∧ k.depth ≤ 8) ∧ Rp K F d x ∧ RpN K F ds ys
def RpL (K : PySem.W.Frag) (F : Hp) : List D → List V → Prop
  | [], xs => xs = []
  | d :: ds, xs => ∃ x ys, xs = x :: ys ∧ Rp K F d x ∧ RpL K F ds ys
def RpK (K : PySem.W.Frag) (F : Hp) : List (Key × D) → List (Key × V) → Prop
  | [], xs => xs = []
  | (k, d) :: ds, xs => ∃ x ys, xs = (k, x) :: ys ∧ Rp K F d x ∧ RpK K F ds ys
def RpT (K : PySem.W.Frag) (F : Hp) : List (List Key × D) → List (List Key × V) → Prop
  | [], xs => xs = []
  | (k, d) :: ds, xs => ∃ x ys, xs = (k, x) :: ys ∧ Rp K F d x ∧ RpT K F ds ys
def RpF (K : PySem.W.Frag) (F : Hp) : List (Str × D) → List (Str × V) → Prop
  | [], xs => xs = []
  | (k, d) :: ds, xs => ∃ x ys, xs = (k, x) :: ys ∧ Rp K F d x ∧ RpF K F ds ys
end


def isfz : HO → Bool
  | .frz _ _ => true
  | _ => false
/-- nothing of F is locked -/
def Nz (F : Hp) : Prop := ∀ a u, F a = some u → isfz u = false
/-- what a loop may lock -/
def lk : HO → Bool
  | .dK _ => true
  | .dT _ => true
  | .lst _ => true
  | .ext _ => true
  | _ => false
/-- all that F says may be read in H -/
def Exz (F H : Hp) : Prop := ∀ a u, F a = some u → H a = some u ∨ (lk u = true ∧ ∃ o, H a = some (.frz o u))
theorem exz_rd {F H : Hp} (e : Exz F H) {a : Addr} {u : HO} (h : F a = some u) : Rd H a u := by
  rcases e a u h with q | ⟨_, o, q⟩
  · exact .inl q
  · exact .inr ⟨o, q⟩
/-- what is never locked stands as it is -/
theorem Exz.at {F H : Hp} (e : Exz F H) {a : Addr} {u : HO} (h : F a = some u) (k : lk u = false) : H a = some u := by
  rcases e a u h with q | ⟨k2, _⟩
  · exact q
  · rw [k] at k2
    cases k2
/-- all of B stands in H as it is -/
def Sub (B H : Hp) : Prop := ∀ a o, B a = some o → H a = some o
theorem Sub.refl (H : Hp) : Sub H H := fun _ _ h => h
theorem Sub.trans {F G H : Hp} (a : Sub F G) (b : Sub G H) : Sub F H := fun x u h => b x u (a x u h)
theorem Sub.exz {B H : Hp} (e : Sub B H) : Exz B H := fun a u h => .inl (e _ _ h)
theorem Sub.new {H : Hp} {p : Addr} {o : HO} (h : H p = none) : Sub H (upd H p o) := fun a u e => by
  rw [upd_ne (ne_of_none e h)]
  exact e
theorem Sub.free {F H : Hp} (e : Sub F H) {a : Addr} (h : H a = none) : F a = none := by
  cases q : F a with
  | none => rfl
  | some o =>
    rw [e a o q] at h
    cases h
theorem rd_ne {H : Hp} {a : Addr} {u : HO} (h : Rd H a u) : H a ≠ none := by
  rcases h with h | ⟨o, h⟩ <;> rw [h] <;> exact fun q => by cases q
theorem Exz.free {F H : Hp} (e : Exz F H) {a : Addr} (h : H a = none) : F a = none := by
  cases q : F a with
  | none => rfl
  | some o => exact absurd h (rd_ne (exz_rd e q))
theorem Exz.rd {F H : Hp} (e : Exz F H) (n : Nz F) {a : Addr} {u : HO} (h : Rd F a u) : Rd H a u := by
  rcases h with h | ⟨o, h⟩
  · exact exz_rd e h
  · have := n a _ h
    cases this
theorem Exz.sub {F G H : Hp} (a : Exz F G) (b : Sub G H) : Exz F H := fun x u h => by
  rcases a x u h with q | ⟨k, o, q⟩
  · exact .inl (b _ _ q)
  · exact .inr ⟨k, o, b _ _ q⟩
theorem sqT_mono {K : PySem.W.Frag} {F H : Hp} {a : Addr} {xs : List V} (e : Exz F H) (n : Nz F) (h : SqT K F a xs) : SqT K H a xs := by
  rcases h with h | h
  · exact .inl (e.rd n h)
  · exact .inr h
section
variable {K : PySem.W.Frag} {F G : Hp}
mutual
theorem RkN.mono (e : Exz F G) (n : Nz F) : ∀ (k : NestedKey) (v : V), RkN K F k v → RkN K G k v
  | .none, _, h => h
  | .num _, _, h => h
  | .text _, _, h => h
  | .tup ks, v, h => by
    obtain ⟨a, xs, e1, h1, h2⟩ := h
    exact ⟨a, xs, e1, sqT_mono e n h1, RkL.mono e n ks xs h2⟩
theorem RkL.mono (e : Exz F G) (n : Nz F) : ∀ (ks : List NestedKey) (xs : List V), RkL K F ks xs → RkL K G ks xs
  | [], _, h => h
  | k :: ks, xs, h => by
    obtain ⟨x, ys, e1, h1, h2⟩ := h
    exact ⟨x, ys, e1, RkN.mono e n k x h1, RkL.mono e n ks ys h2⟩
end
mutual
theorem Rp.mono (e : Exz F G) (n : Nz F) : ∀ (d : D) (v : V), Rp K F d v → Rp K G d v
  | .non, _, h => h
  | .bl _, _, h => h
  | .int _, _, h => h
  | .str _, _, h => h
  | .ty _, _, h => h
  | .adr _, _, h => h
  | .tup ds, v, h => by
    obtain ⟨a, xs, e1, h1, h2⟩ := h
    exact ⟨a, xs, e1, sqT_mono e n h1, RpL.mono e n ds xs h2⟩
  | .lst ds, v, h => by
    obtain ⟨a, xs, e1, h1, h2⟩ := h
    exact ⟨a, xs, e1, e.rd n h1, RpL.mono e n ds xs h2⟩
  | .dic ds, v, h => by
    obtain ⟨a, xs, e1, h1, h2⟩ := h
    exact ⟨a, xs, e1, e.rd n h1, RpK.mono e n ds xs h2⟩
  | .dit ds, v, h => by
    obtain ⟨a, xs, e1, h1, h2⟩ := h
    exact ⟨a, xs, e1, e.rd n h1, RpT.mono e n ds xs h2⟩
  | .ins C ds, v, h => by
    obtain ⟨a, dx, xs, e1, h1, h2⟩ := h
    exact ⟨a, dx, xs, e1, e.rd n h1, RpF.mono e n ds xs h2⟩
  | .din w ds, v, h => by
    obtain ⟨a, xs, e1, h1, h2⟩ := h
    exact ⟨a, xs, e1, e.rd n h1, RpN.mono e n ds xs h2⟩
theorem RpN.mono (e : Exz F G) (n : Nz F) : ∀ (ds : List (NestedKey × D)) (xs : List (NestedKey × Addr × V)), RpN K F ds xs → RpN K G ds xs
  | [], _, h => h
  | (k, d) :: ds, xs, h => by
    obtain ⟨b, x, ys, e1, h0, h1, h2⟩ := h
    exact ⟨b, x, ys, e1, ⟨RkN.mono e n k _ h0.1, h0.2⟩, Rp.mono e n d x h1, RpN.mono e n ds ys h2⟩
theorem RpL.mono (e : Exz F G) (n : Nz F) : ∀ (ds : List D) (xs : List V), RpL K F ds xs → RpL K G ds xs
  | [], _, h => h
  | d :: ds, xs, h => by
    obtain ⟨x, ys, e1, h1, h2⟩ := h
    exact ⟨x, ys, e1, Rp.mono e n d x h1, RpL.mono e n ds ys h2⟩
theorem RpK.mono (e : Exz F G) (n : Nz F) : ∀ (ds : List (Key × D)) (xs : List (Key × V)), RpK K F ds xs → RpK K G ds xs
  | [], _, h => h
  | (k, d) :: ds, xs, h => by
    obtain ⟨x, ys, e1, h1, h2⟩ := h
    exact ⟨x, ys, e1, Rp.mono e n d x h1, RpK.mono e n ds ys h2⟩
theorem RpT.mono (e : Exz F G) (n : Nz F) : ∀ (ds : List (List Key × D)) (xs : List (List Key × V)), RpT K F ds xs → RpT K G ds xs
  | [], _, h => h
  | (k, d) :: ds, xs, h => by
    obtain ⟨x, ys, e1, h1, h2⟩ := h
    exact ⟨x, ys, e1, Rp.mono e n d x h1, RpT.mono e n ds ys h2⟩
theorem RpF.mono (e : Exz F G) (n : Nz F) : ∀ (ds : List (Str × D)) (xs : List (Str × V)), RpF K F ds xs → RpF K G ds xs
  | [], _, h => h
  | (k, d) :: ds, xs, h => by
    obtain ⟨x, ys, e1, h1, h2⟩ := h
    exact ⟨x, ys, e1, Rp.mono e n d x h1, RpF.mono e n ds ys h2⟩
end
end

/-! ### worlds -/
/-- what may be read of B and F together -/
def uni (B F : Hp) : Hp := fun a => match F a with
  | some o => some o
  | none => match B a with
    | some (.frz _ u) => if lk u then some u else none
    | x => x
inductive W where
  | val (d : D) | vw (d : D)
def WOk (K : PySem.W.Frag) (B F : Hp) (v : V) : W → Prop
  | .val d => Rp K F d v
  | .vw d => Rp K (uni B F) d v
inductive Nd where
  | lst (ds : List D) | dic (ds : List (Key × D)) | dit (ds : List (List Key × D)) | ldic (o : Obj) (xs : List (Key × V)) (ds : List (Key × D)) | ins (C : Addr) (ds : List (Str × D)) | xd (ds : List (Str × D))
  | din (w : World) (ds : List (NestedKey × D))
def NdOk (K : PySem.W.Frag) (F H : Hp) (a : Addr) : Nd → Prop
  | .lst ds => ∃ xs, H a = some (.lst xs) ∧ RpL K F ds xs
  | .dic ds => ∃ xs, H a = some (.dK xs) ∧ RpK K F ds xs
  | .dit ds => ∃ xs, H a = some (.dT xs) ∧ RpT K F ds xs
  | .ldic o xs ds => H a = some (.frz o (.dK xs)) ∧ RpK K F ds xs
  | .ins C ds => ∃ dx xs, H a = some (.ins C dx xs) ∧ RpF K F ds xs
  | .xd ds => ∃ xs, H a = some (.xd xs) ∧ RpF K F ds xs
  | .din w ds => ∃ xs, H a = some (DnO w a xs) ∧ RpN K F ds xs
abbrev Cells := List (Addr × Nd)
/-- F has grown, off B -/
structure Gr (B F F' : Hp) : Prop where
  sub : Sub F F'
  off : ∀ a, F a = none → B a ≠ none → F' a = none
theorem Gr.refl (B F : Hp) : Gr B F F := ⟨Sub.refl F, fun _ h _ => h⟩
theorem Gr.trans {B F G H : Hp} (a : Gr B F G) (b : Gr B G H) : Gr B F H := ⟨a.sub.trans b.sub, fun x h n => b.off x (a.off x h n) n⟩
/-- the state by data, over the frozen F: the slots, the cells, what is held on the way -/
structure EnF (K : PySem.W.Frag) (B F : Hp) (ro : List (Option W)) (ka : Cells) (ta : List (V × W)) (sg : L2.St) (H : Hp) : Prop where
  nz : Nz F
  fz : Exz F H
  fr : Sub B H
  nd : (ka.map (·.1)).Nodup
  ce : ∀ p ∈ ka, F p.1 = none ∧ B p.1 = none ∧ NdOk K F H p.1 p.2
  ln : sg.length = ro.length
  sl : ∀ (i : Nat) (w : W), ro[i]? = some (some w) → ∃ v, sg[i]? = some (some v) ∧ WOk K B F v w
  tm : ∀ p ∈ ta, WOk K B F p.1 p.2
def En (K : PySem.W.Frag) (B F0 : Hp) (ro : List (Option W)) (ka : Cells) (ta : List (V × W)) (sg : L2.St) (H : Hp) : Prop :=
  ∃ F, Gr B F0 F ∧ EnF K B F ro ka ta sg H

theorem uni_nz {B F : Hp} (n : Nz F) : Nz (uni B F) := fun a u h => by
  unfold uni at h
  split at h
  · rename_i o q
    exact n a u (q.trans h)
  · split at h
    · rename_i ob x q
      split at h
      · rename_i hx
        cases h
        cases u <;> first | rfl | cases hx
      · cases h
    · rename_i x q
      cases u with
      | frz ob z => exact absurd h (q ob z)
      | _ => rfl
theorem uni_exz {B F H : Hp} (fz : Exz F H) (fr : Sub B H) : Exz (uni B F) H := fun a u h => by
  unfold uni at h
  split at h
  · rename_i o q
    exact fz a u (q.trans h)
  · split at h
    · rename_i ob x q
      split at h
      · rename_i hx
        cases h
        exact .inr ⟨hx, ob, fr _ _ q⟩
      · cases h
    · exact .inl (fr _ _ h)
theorem uni_of {B F : Hp} {a : Addr} {u : HO} (h : F a = some u) : uni B F a = some u := by
  unfold uni
  rw [h]
theorem uni_sub {B F : Hp} : Sub F (uni B F) := fun _ _ h => uni_of h
theorem uni_gr {B F F' : Hp} (g : Gr B F F') : Sub (uni B F) (uni B F') := fun a u h => by
  unfold uni at h ⊢
  cases q : F a with
  | some o =>
    rw [q] at h
    rw [g.sub a o q]
    exact h
  | none =>
    rw [q] at h
    have hb : B a ≠ none := fun z => by
      rw [z] at h
      cases h
    rw [g.off a q hb]
    exact h
theorem wok_gr {K : PySem.W.Frag} {B F F' : Hp} (n : Nz F) (g : Gr B F F') {v : V} {w : W} (h : WOk K B F v w) : WOk K B F' v w := by
  cases w with
  | val d => exact Rp.mono g.sub.exz n d v h
  | vw d => exact Rp.mono (uni_gr g).exz (uni_nz n) d v h
/-- frozen data may be viewed -/
theorem wok_vw {K : PySem.W.Frag} {B F : Hp} (n : Nz F) {v : V} {d : D} (h : WOk K B F v (.val d)) : WOk K B F v (.vw d) := Rp.mono uni_sub.exz n d v h
theorem ndok_gr {K : PySem.W.Frag} {B F F' H : Hp} (n : Nz F) (g : Gr B F F') {a : Addr} {x : Nd} (h : NdOk K F H a x) : NdOk K F' H a x := by
  cases x with
  | lst ds => obtain ⟨xs, e, r⟩ := h; exact ⟨xs, e, RpL.mono g.sub.exz n _ _ r⟩
  | dic ds => obtain ⟨xs, e, r⟩ := h; exact ⟨xs, e, RpK.mono g.sub.exz n _ _ r⟩
  | dit ds => obtain ⟨xs, e, r⟩ := h; exact ⟨xs, e, RpT.mono g.sub.exz n _ _ r⟩
  | ldic o xs ds => obtain ⟨e, r⟩ := h; exact ⟨e, RpK.mono g.sub.exz n _ _ r⟩
  | ins C ds => obtain ⟨dx, xs, e, r⟩ := h; exact ⟨dx, xs, e, RpF.mono g.sub.exz n _ _ r⟩
  | xd ds => obtain ⟨xs, e, r⟩ := h; exact ⟨xs, e, RpF.mono g.sub.exz n _ _ r⟩
  | din w ds => obtain ⟨xs, e, r⟩ := h; exact ⟨xs, e, RpN.mono g.sub.exz n _ _ r⟩
/-- the address where a node stands is taken -/
theorem ndok_ne {K : PySem.W.Frag} {F H : Hp} {a : Addr} {x : Nd} (h : NdOk K F H a x) : H a ≠ none := by
  cases x with
  | lst ds => obtain ⟨xs, e, r⟩ := h; rw [e]; exact fun q => by cases q
  | dic ds => obtain ⟨xs, e, r⟩ := h; rw [e]; exact fun q => by cases q
  | dit ds => obtain ⟨xs, e, r⟩ := h; rw [e]; exact fun q => by cases q
  | ldic o xs ds => obtain ⟨e, r⟩ := h; rw [e]; exact fun q => by cases q
  | ins C ds => obtain ⟨dx, xs, e, r⟩ := h; rw [e]; exact fun q => by cases q
  | xd ds => obtain ⟨xs, e, r⟩ := h; rw [e]; exact fun q => by cases q
  | din w ds => obtain ⟨xs, e, r⟩ := h; rw [e]; exact fun q => by cases q
theorem ndok_at {K : PySem.W.Frag} {F H H' : Hp} {a : Addr} {x : Nd} (e : H' a = H a) (h : NdOk K F H a x) : NdOk K F H' a x := by
  cases x with
  | lst ds => obtain ⟨xs, q, r⟩ := h; exact ⟨xs, e.trans q, r⟩
  | dic ds => obtain ⟨xs, q, r⟩ := h; exact ⟨xs, e.trans q, r⟩
  | dit ds => obtain ⟨xs, q, r⟩ := h; exact ⟨xs, e.trans q, r⟩
  | ldic o xs ds => obtain ⟨q, r⟩ := h; exact ⟨e.trans q, r⟩
  | ins C ds => obtain ⟨dx, xs, q, r⟩ := h; exact ⟨dx, xs, e.trans q, r⟩
  | xd ds => obtain ⟨xs, q, r⟩ := h; exact ⟨xs, e.trans q, r⟩
  | din w ds => obtain ⟨xs, q, r⟩ := h; exact ⟨xs, e.trans q, r⟩
section
variable {K : PySem.W.Frag} {B F F' F0 : Hp} {ro : List (Option W)} {ka : Cells} {ta : List (V × W)} {sg : L2.St} {H : Hp}
/-- a new object is laid as frozen data -/
theorem EnF.lay (e : EnF K B F ro ka ta sg H) {p : Addr} {o : HO} (hp : H p = none) (hn : isfz o = false) : EnF K B (upd F p o) ro ka ta sg (upd H p o) ∧ Gr B F (upd F p o) := by
  have fp : F p = none := e.fz.free hp
  have bp : B p = none := e.fr.free hp
  have g : Gr B F (upd F p o) := ⟨Sub.new fp, fun a h1 h2 => by
    have ne : a ≠ p := fun q => h2 (q ▸ bp)
    rw [upd_ne ne]
    exact h1⟩
  refine ⟨⟨fun a u h => ?_, fun a u h => ?_, fun a u h => ?_, e.nd, fun q hq => ?_, e.ln, fun i w h => ?_, fun q hq => wok_gr e.nz g (e.tm q hq)⟩, g⟩
  · by_cases ha : a = p
    · subst ha; rw [upd_same] at h; cases h; exact hn
    · rw [upd_ne ha] at h; exact e.nz a u h
  · by_cases ha : a = p
    · subst ha; rw [upd_same] at h; cases h; exact .inl upd_same
    · rw [upd_ne ha] at h; exact e.fz.sub (Sub.new hp) a u h
  · have ha : a ≠ p := ne_of_none h bp
    rw [upd_ne ha]; exact e.fr a u h
  · obtain ⟨h1, h2, h3⟩ := e.ce q hq
    have nq : q.1 ≠ p := fun z => ndok_ne h3 (z ▸ hp)
    refine ⟨by rw [upd_ne nq]; exact h1, h2, ndok_at (upd_ne nq) (ndok_gr e.nz g h3)⟩
  · obtain ⟨v, h1, h2⟩ := e.sl i w h
    exact ⟨v, h1, wok_gr e.nz g h2⟩
/-- a new object is laid as a cell -/
theorem EnF.cell (e : EnF K B F ro ka ta sg H) {p : Addr} {o : HO} (hp : H p = none) {n : Nd} (hn : NdOk K F (upd H p o) p n) : EnF K B F ro (ka ++ [(p, n)]) ta sg (upd H p o) := by
  refine ⟨e.nz, e.fz.sub (Sub.new hp), e.fr.trans (Sub.new hp), ?_, fun q hq => ?_, e.ln, e.sl, e.tm⟩
  · rw [List.map_append, List.nodup_append]
    refine ⟨e.nd, by simp, fun a ha b hb => ?_⟩
    obtain ⟨q, hq, rfl⟩ := List.mem_map.mp ha
    simp at hb
    subst hb
    exact fun z => ndok_ne (e.ce q hq).2.2 (z ▸ hp)
  · rcases List.mem_append.mp hq with hq | hq
    · obtain ⟨h1, h2, h3⟩ := e.ce q hq
      have nq : q.1 ≠ p := fun z => ndok_ne h3 (z ▸ hp)
      exact ⟨h1, h2, ndok_at (upd_ne nq) h3⟩
    · simp at hq
      subst hq
      exact ⟨e.fz.free hp, e.fr.free hp, hn⟩
theorem EnF.push (e : EnF K B F ro ka ta sg H) {v : V} {w : W} (h : WOk K B F v w) : EnF K B F ro ka ((v, w) :: ta) sg H :=
  ⟨e.nz, e.fz, e.fr, e.nd, e.ce, e.ln, e.sl, fun p hp => (List.mem_cons.mp hp).elim (fun z => z ▸ h) (e.tm p)⟩
theorem EnF.held (e : EnF K B F ro ka ta sg H) {ta' : List (V × W)} (h : ∀ p ∈ ta', p ∈ ta) : EnF K B F ro ka ta' sg H :=
  ⟨e.nz, e.fz, e.fr, e.nd, e.ce, e.ln, e.sl, fun p hp => e.tm p (h p hp)⟩
/-- a slot is set -/
theorem EnF.set (e : EnF K B F ro ka ta sg H) {v : V} {w : W} (h : WOk K B F v w) (i : Nat) : EnF K B F (ro.set i (some w)) ka ta (sg.set i (some v)) H := by
  refine ⟨e.nz, e.fz, e.fr, e.nd, e.ce, by rw [List.length_set, List.length_set, e.ln], fun j w' hj => ?_, e.tm⟩
  by_cases hij : i = j
  · subst hij
    have hi : i < ro.length := by
      have := (List.getElem?_eq_some_iff.mp hj).1
      rwa [List.length_set] at this
    rw [List.getElem?_set_self hi] at hj
    cases hj
    exact ⟨v, by rw [List.getElem?_set_self (by rw [e.ln]; exact hi)], h⟩
  · rw [List.getElem?_set_ne hij] at hj ⊢
    exact e.sl j w' hj
/-- another frame: its slots -/
theorem EnF.frame (e : EnF K B F ro ka ta sg H) {ro' : List (Option W)} {sg' : L2.St} (hl : sg'.length = ro'.length) (h : ∀ (i : Nat) w, ro'[i]? = some (some w) → ∃ v, sg'[i]? = some (some v) ∧ WOk K B F v w) : EnF K B F ro' ka ta sg' H :=
  ⟨e.nz, e.fz, e.fr, e.nd, e.ce, hl, h, e.tm⟩
/-- cells in another order, some forgotten -/
theorem EnF.cells (e : EnF K B F ro ka ta sg H) {ka' : Cells} (hs : ka'.Sublist ka) : EnF K B F ro ka' ta sg H :=
  ⟨e.nz, e.fz, e.fr, (hs.map _).nodup e.nd, fun p hp => e.ce p (hs.subset hp), e.ln, e.sl, e.tm⟩
theorem EnF.perm (e : EnF K B F ro ka ta sg H) {ka' : Cells} (hs : ka'.Perm ka) : EnF K B F ro ka' ta sg H :=
  ⟨e.nz, e.fz, e.fr, (hs.map _).nodup_iff.mpr e.nd, fun p hp => e.ce p (hs.subset hp), e.ln, e.sl, e.tm⟩
/-- a cell is written -/
theorem EnF.write (e : EnF K B F ro ka ta sg H) {j : Nat} {p : Addr} {n n' : Nd} {o : HO} (hj : ka[j]? = some (p, n)) (hn : NdOk K F (upd H p o) p n') : EnF K B F ro (ka.set j (p, n')) ta sg (upd H p o) := by
  have hjl := (List.getElem?_eq_some_iff.mp hj).1
  have hm : (p, n) ∈ ka := List.mem_of_getElem? hj
  obtain ⟨fp, bp, _⟩ := e.ce _ hm
  have em : (ka.set j (p, n')).map (·.1) = ka.map (·.1) := by
    apply List.ext_getElem?
    intro i
    rw [List.getElem?_map, List.getElem?_map]
    by_cases hij : j = i
    · subst hij
      rw [List.getElem?_set_self hjl, hj]
      rfl
    · rw [List.getElem?_set_ne hij]
  refine ⟨e.nz, fun a u h => ?_, fun a u h => ?_, by rw [em]; exact e.nd, fun q hq => ?_, e.ln, e.sl, e.tm⟩
  · have ha : a ≠ p := ne_of_none h fp
    rcases e.fz a u h with q | ⟨k, ob, q⟩
    · exact .inl (by rw [upd_ne ha]; exact q)
    · exact .inr ⟨k, ob, by rw [upd_ne ha]; exact q⟩
  · have ha : a ≠ p := ne_of_none h bp
    rw [upd_ne ha]
    exact e.fr a u h
  · obtain ⟨i, hi⟩ := List.getElem?_of_mem hq
    by_cases hij : j = i
    · subst hij
      rw [List.getElem?_set_self hjl] at hi
      cases hi
      exact ⟨fp, bp, hn⟩
    · rw [List.getElem?_set_ne hij] at hi
      obtain ⟨h1, h2, h3⟩ := e.ce q (List.mem_of_getElem? hi)
      have nq : q.1 ≠ p := fun z => by
        have h4 : (ka.map (·.1))[i]? = some p := by rw [List.getElem?_map, hi]; simp [z]
        have h5 : (ka.map (·.1))[j]? = some p := by rw [List.getElem?_map, hj]; rfl
        obtain ⟨l1, e1⟩ := List.getElem?_eq_some_iff.mp h4
        obtain ⟨l2, e2⟩ := List.getElem?_eq_some_iff.mp h5
        exact hij ((List.getElem_inj e.nd).mp (e2.trans e1.symm))
      exact ⟨h1, h2, ndok_at (upd_ne nq) h3⟩
end
end DL

/-! DB: what expressions evaluate to, by data (own work). -/
namespace DL
open PySem L2

/-! ### judgements -/
section
variable (K : PySem.W.Frag)
abbrev Ro := List (Option W)
def EvD (te : TE) (ro : Ro) (ka : Cells) (w : W) (ka' : Cells) : Prop := ∀ B F0 ta sg H (Q : VK), En K B F0 ro ka ta sg H → (∀ v H', En K B F0 ro ka' ((v, w) :: ta) sg H' → Q v H') → te sg H Q
/-- a new cell -/
def EvN (te : TE) (ro : Ro) (ka : Cells) (n : Nd) (ka' : Cells) : Prop := ∀ B F0 ta sg H (Q : VK), En K B F0 ro ka ta sg H → (∀ a H', En K B F0 ro (ka' ++ [(a, n)]) ta sg H' → Q (.ref a) H') → te sg H Q
def EvT (tt : TT) (ro : Ro) (ka : Cells) (b : Bool) (ka' : Cells) : Prop := ∀ B F0 ta sg H (Q : Bool → Hp → Prop), En K B F0 ro ka ta sg H → (∀ H', En K B F0 ro ka' ta sg H' → Q b H') → tt sg H Q
def EvA (tr : TA) (ro : Ro) (ka : Cells) (ws : List W) (ka' : Cells) : Prop := ∀ B F0 ta sg H (Q : List V → Hp → Prop), En K B F0 ro ka ta sg H → (∀ vs H', vs.length = ws.length → En K B F0 ro ka' (vs.zip ws ++ ta) sg H' → Q vs H') → tr sg H Q
/-- a two-place operation, a one-place one -/
def RvD (r : R2) (ka : Cells) (x y z : W) : Prop := ∀ B F0 ro ta sg H u v (Q : VK), En K B F0 ro ka ta sg H → (u, x) ∈ ta → (v, y) ∈ ta → (∀ t H', En K B F0 ro ka ((t, z) :: ta) sg H' → Q t H') → r u v H Q
def RvN (r : R2) (ka : Cells) (x y : W) (n : Nd) : Prop := ∀ B F0 ro ta sg H u v (Q : VK), En K B F0 ro ka ta sg H → (u, x) ∈ ta → (v, y) ∈ ta → (∀ a H', En K B F0 ro (ka ++ [(a, n)]) ta sg H' → Q (.ref a) H') → r u v H Q
def RuD (r : V → Hp → VK → Prop) (ka : Cells) (x z : W) : Prop := ∀ B F0 ro ta sg H u (Q : VK), En K B F0 ro ka ta sg H → (u, x) ∈ ta → (∀ t H', En K B F0 ro ka ((t, z) :: ta) sg H' → Q t H') → r u H Q
/-- a call by values -/
def RcD (r : List V → Hp → VK → Prop) (ka : Cells) (xs : List W) (z : W) : Prop := ∀ B F0 ro ta sg H us (Q : VK), En K B F0 ro ka ta sg H → us.length = xs.length → (∀ p ∈ us.zip xs, p ∈ ta) → (∀ t H', En K B F0 ro ka ((t, z) :: ta) sg H' → Q t H') → r us H Q
def RcN (r : List V → Hp → VK → Prop) (ka : Cells) (xs : List W) (n : Nd) : Prop := ∀ B F0 ro ta sg H us (Q : VK), En K B F0 ro ka ta sg H → us.length = xs.length → (∀ p ∈ us.zip xs, p ∈ ta) → (∀ a H', En K B F0 ro (ka ++ [(a, n)]) ta sg H' → Q (.ref a) H') → r us H Q
/-- a part of a slice -/
def EvO (to : TO) (ro : Ro) (ka : Cells) (o : Option Int) (ka' : Cells) : Prop := ∀ B F0 ta sg H (Q : Option Int → Hp → Prop), En K B F0 ro ka ta sg H → (∀ H', En K B F0 ro ka' ta sg H' → Q o H') → to sg H Q
end

section
variable {K : PySem.W.Frag} {B F0 : Hp} {ro : Ro} {ka k1 k2 k3 : Cells} {ta : List (V × W)} {sg : L2.St} {H : Hp} {te tf tg : TE} {tt tu : TT} {tr : TA} {w x y z : W} {n : Nd} {r : R2}
theorem En.held (e : En K B F0 ro ka ta sg H) {ta' : List (V × W)} (h : ∀ p ∈ ta', p ∈ ta) : En K B F0 ro ka ta' sg H :=
  let ⟨F, g, q⟩ := e
  ⟨F, g, q.held h⟩
theorem En.pop {p : V × W} (e : En K B F0 ro ka (p :: ta) sg H) : En K B F0 ro ka ta sg H := e.held fun _ h => List.mem_cons_of_mem _ h
/-- what data says of its value -/
theorem En.push_imm (e : En K B F0 ro ka ta sg H) {v : V} {w : W} (h : ∀ F, WOk K B F v w) : En K B F0 ro ka ((v, w) :: ta) sg H :=
  let ⟨F, g, q⟩ := e
  ⟨F, g, q.push (h F)⟩
theorem En.tm_int (e : En K B F0 ro ka ta sg H) {v : V} {i : Int} (h : (v, W.val (.int i)) ∈ ta) : v = .int i := let ⟨_, _, q⟩ := e; q.tm _ h
theorem En.tm_str (e : En K B F0 ro ka ta sg H) {v : V} {i : Str} (h : (v, W.val (.str i)) ∈ ta) : v = .str i := let ⟨_, _, q⟩ := e; q.tm _ h
theorem En.tm_bl (e : En K B F0 ro ka ta sg H) {v : V} {i : Bool} (h : (v, W.val (.bl i)) ∈ ta) : v = .bl i := let ⟨_, _, q⟩ := e; q.tm _ h
theorem En.tm_non (e : En K B F0 ro ka ta sg H) {v : V} (h : (v, W.val .non) ∈ ta) : v = .non := let ⟨_, _, q⟩ := e; q.tm _ h
theorem En.tm_adr (e : En K B F0 ro ka ta sg H) {v : V} {a : Addr} (h : (v, W.val (.adr a)) ∈ ta) : v = .ref a := let ⟨_, _, q⟩ := e; q.tm _ h
theorem En.tm_ty (e : En K B F0 ro ka ta sg H) {v : V} {i : String} (h : (v, W.val (.ty i)) ∈ ta) : v = .ty i := let ⟨_, _, q⟩ := e; q.tm _ h

/-- data that is the value itself -/
def imm : D → Bool
  | .non => true | .bl _ => true | .int _ => true | .str _ => true | .ty _ => true | .adr _ => true
  | _ => false
theorem imm_any {F G : Hp} : ∀ {d : D} {v : V}, imm d = true → Rp K F d v → Rp K G d v
  | .non, _, _, h => h
  | .bl _, _, _, h => h
  | .int _, _, _, h => h
  | .str _, _, _, h => h
  | .ty _, _, _, h => h
  | .adr _, _, _, h => h
/-- a part of something viewed, of something frozen -/
def part (b : Bool) (d : D) : W := if b && !imm d then .vw d else .val d
theorem wok_part {B F : Hp} {v : V} {d : D} (b : Bool) (h : Rp K (if b then uni B F else F) d v) : WOk K B F v (part b d) := by
  unfold part
  cases b with
  | false => exact h
  | true =>
    cases q : imm d with
    | true => exact imm_any q h
    | false => exact h
/-! ### names, constants -/
theorem ev_var {i : Nat} (h : ro[i]? = some (some w)) : EvD K (tVar i) ro ka w ka := fun B F0 ta sg H Q e q => by
  obtain ⟨F, g, e⟩ := e
  obtain ⟨v, h1, h2⟩ := e.sl i w h
  exact ⟨v, h1, q v H ⟨F, g, e.push h2⟩⟩
theorem ev_int {i : Int} : EvD K (tC (.int i)) ro ka (.val (.int i)) ka := fun B F0 ta sg H Q e q => q _ _ (e.push_imm fun _ => rfl)
theorem ev_str {i : Str} : EvD K (tC (.str i)) ro ka (.val (.str i)) ka := fun B F0 ta sg H Q e q => q _ _ (e.push_imm fun _ => rfl)
theorem ev_bl {i : Bool} : EvD K (tC (.bl i)) ro ka (.val (.bl i)) ka := fun B F0 ta sg H Q e q => q _ _ (e.push_imm fun _ => rfl)
theorem ev_non : EvD K (tC .non) ro ka (.val .non) ka := fun B F0 ta sg H Q e q => q _ _ (e.push_imm fun _ => rfl)
theorem ev_ref {a : Addr} : EvD K (tC (.ref a)) ro ka (.val (.adr a)) ka := fun B F0 ta sg H Q e q => q _ _ (e.push_imm fun _ => rfl)
theorem ev_ty {a : String} : EvD K (tC (.ty a)) ro ka (.val (.ty a)) ka := fun B F0 ta sg H Q e q => q _ _ (e.push_imm fun _ => rfl)

/-! ### operations -/
theorem ev_op (ha : EvD K te ro ka x k1) (hb : EvD K tf ro k1 y k2) (hr : RvD K r k2 x y z) : EvD K (tOp r te tf) ro ka z k2 := fun B F0 ta sg H Q e q =>
  ha B F0 ta sg H _ e fun u H1 e1 => hb B F0 _ sg H1 _ e1 fun v H2 e2 => hr B F0 ro _ sg H2 u v Q e2 (List.mem_cons_of_mem _ List.mem_cons_self) List.mem_cons_self fun t H3 e3 =>
    q t H3 (e3.held fun p hp => by
      rcases List.mem_cons.mp hp with rfl | hp
      · exact List.mem_cons_self
      · exact List.mem_cons_of_mem _ (List.mem_cons_of_mem _ (List.mem_cons_of_mem _ hp)))
theorem evn_op (ha : EvD K te ro ka x k1) (hb : EvD K tf ro k1 y k2) (hr : RvN K r k2 x y n) : EvN K (tOp r te tf) ro ka n k2 := fun B F0 ta sg H Q e q =>
  ha B F0 ta sg H _ e fun u H1 e1 => hb B F0 _ sg H1 _ e1 fun v H2 e2 => hr B F0 ro _ sg H2 u v Q e2 (List.mem_cons_of_mem _ List.mem_cons_self) List.mem_cons_self fun t H3 e3 =>
    q t H3 (e3.held fun p hp => List.mem_cons_of_mem _ (List.mem_cons_of_mem _ hp))
theorem ev_un {r : V → Hp → VK → Prop} (ha : EvD K te ro ka x k1) (hr : RuD K r k1 x z) : EvD K (tUn r te) ro ka z k1 := fun B F0 ta sg H Q e q =>
  ha B F0 ta sg H _ e fun u H1 e1 => hr B F0 ro _ sg H1 u Q e1 List.mem_cons_self fun t H3 e3 => q t H3 (e3.held fun p hp => by
      rcases List.mem_cons.mp hp with rfl | hp
      · exact List.mem_cons_self
      · exact List.mem_cons_of_mem _ (List.mem_cons_of_mem _ hp))
theorem ea_nil : EvA K tNil ro ka [] ka := fun B F0 ta sg H Q e q => q [] H rfl e
theorem ea_cons (ha : EvD K te ro ka x k1) {ws : List W} (hr : EvA K tr ro k1 ws k2) : EvA K (tCons te tr) ro ka (x :: ws) k2 := fun B F0 ta sg H Q e q =>
  ha B F0 ta sg H _ e fun u H1 e1 => hr B F0 _ sg H1 _ e1 fun vs H2 hl e2 => q (u :: vs) H2 (by rw [List.length_cons, List.length_cons, hl]) (e2.held fun p hp => by
    have hp' : p ∈ (u, x) :: (vs.zip ws ++ ta) := hp
    rcases List.mem_cons.mp hp' with rfl | h
    · exact List.mem_append_right _ List.mem_cons_self
    · rcases List.mem_append.mp h with h | h
      · exact List.mem_append_left _ h
      · exact List.mem_append_right _ (List.mem_cons_of_mem _ h))
theorem ev_cb {r : List V → Hp → VK → Prop} {ws : List W} (ha : EvA K tr ro ka ws k1) (hr : RcD K r k1 ws z) : EvD K (tCB r tr) ro ka z k1 := fun B F0 ta sg H Q e q =>
  ha B F0 ta sg H _ e fun us H1 hl e1 => hr B F0 ro _ sg H1 us Q e1 hl (fun p hp => List.mem_append_left _ hp) fun t H2 e2 => q t H2 (e2.held fun p hp => by
    rcases List.mem_cons.mp hp with rfl | hp
    · exact List.mem_cons_self
    · exact List.mem_cons_of_mem _ (List.mem_append_right _ hp))
theorem evn_cb {r : List V → Hp → VK → Prop} {ws : List W} (ha : EvA K tr ro ka ws k1) (hr : RcN K r k1 ws n) : EvN K (tCB r tr) ro ka n k1 := fun B F0 ta sg H Q e q =>
  ha B F0 ta sg H _ e fun us H1 hl e1 => hr B F0 ro _ sg H1 us Q e1 hl (fun p hp => List.mem_append_left _ hp) fun t H2 e2 => q t H2 (e2.held fun p hp => List.mem_append_right _ hp)
/-- another of the ways of an operation -/
theorem rvd_l {r' : R2} (h : RvD K r ka x y z) : RvD K (fun x y H Q => r x y H Q ∨ r' x y H Q) ka x y z := fun B F0 ro ta sg H u v Q e h1 h2 q => .inl (h B F0 ro ta sg H u v Q e h1 h2 q)
theorem rvd_r {r' : R2} (h : RvD K r' ka x y z) : RvD K (fun x y H Q => r x y H Q ∨ r' x y H Q) ka x y z := fun B F0 ro ta sg H u v Q e h1 h2 q => .inr (h B F0 ro ta sg H u v Q e h1 h2 q)
theorem rvn_l {r' : R2} (h : RvN K r ka x y n) : RvN K (fun x y H Q => r x y H Q ∨ r' x y H Q) ka x y n := fun B F0 ro ta sg H u v Q e h1 h2 q => .inl (h B F0 ro ta sg H u v Q e h1 h2 q)
theorem rvn_r {r' : R2} (h : RvN K r' ka x y n) : RvN K (fun x y H Q => r x y H Q ∨ r' x y H Q) ka x y n := fun B F0 ro ta sg H u v Q e h1 h2 q => .inr (h B F0 ro ta sg H u v Q e h1 h2 q)
theorem rcd_l {r r' : List V → Hp → VK → Prop} {xs : List W} (h : RcD K r ka xs z) : RcD K (fun x H Q => r x H Q ∨ r' x H Q) ka xs z := fun B F0 ro ta sg H u Q e h1 h2 q => .inl (h B F0 ro ta sg H u Q e h1 h2 q)
theorem rcd_r {r r' : List V → Hp → VK → Prop} {xs : List W} (h : RcD K r' ka xs z) : RcD K (fun x H Q => r x H Q ∨ r' x H Q) ka xs z := fun B F0 ro ta sg H u Q e h1 h2 q => .inr (h B F0 ro ta sg H u Q e h1 h2 q)
/-! ### a new cell, frozen -/
theorem En.freeze_l (e : En K B F0 ro (ka ++ [(a, .lst ds)]) ta sg H) : En K B F0 ro ka ((.ref a, .val (.lst ds)) :: ta) sg H := by
  obtain ⟨F, g, e⟩ := e
  obtain ⟨fa, ba, xs, ha, rl⟩ := e.ce (a, .lst ds) (by simp)
  have gg : Gr B F (upd F a (.lst xs)) := ⟨Sub.new fa, fun b h1 h2 => by
    have ne : b ≠ a := fun q => h2 (q ▸ ba)
    rw [upd_ne ne]
    exact h1⟩
  have nd2 := e.nd
  rw [List.map_append, List.nodup_append] at nd2
  refine ⟨upd F a (.lst xs), g.trans gg, ⟨fun b u h => ?_, fun b u h => ?_, e.fr, nd2.1, fun q hq => ?_, e.ln, fun i w h => ?_, fun q hq => ?_⟩⟩
  · by_cases hb : b = a
    · subst hb; rw [upd_same] at h; cases h; rfl
    · rw [upd_ne hb] at h; exact e.nz b u h
  · by_cases hb : b = a
    · subst hb; rw [upd_same] at h; cases h; exact .inl ha
    · rw [upd_ne hb] at h; exact e.fz b u h
  · obtain ⟨h1, h2, h3⟩ := e.ce q (List.mem_append_left _ hq)
    have nq : q.1 ≠ a := fun z => nd2.2.2 q.1 (List.mem_map.mpr ⟨q, hq, rfl⟩) a (by simp) z
    exact ⟨by rw [upd_ne nq]; exact h1, h2, ndok_gr e.nz gg h3⟩
  · obtain ⟨v, h1, h2⟩ := e.sl i w h
    exact ⟨v, h1, wok_gr e.nz gg h2⟩
  · rcases List.mem_cons.mp hq with rfl | hq
    · exact ⟨a, xs, rfl, .inl upd_same, RpL.mono gg.sub.exz e.nz _ _ rl⟩
    · exact wok_gr e.nz gg (e.tm q hq)
theorem En.freeze_k (e : En K B F0 ro (ka ++ [(a, .dic ds)]) ta sg H) : En K B F0 ro ka ((.ref a, .val (.dic ds)) :: ta) sg H := by
  obtain ⟨F, g, e⟩ := e
  obtain ⟨fa, ba, xs, ha, rl⟩ := e.ce (a, .dic ds) (by simp)
  have gg : Gr B F (upd F a (.dK xs)) := ⟨Sub.new fa, fun b h1 h2 => by
    have ne : b ≠ a := fun q => h2 (q ▸ ba)
    rw [upd_ne ne]
    exact h1⟩
  have nd2 := e.nd
  rw [List.map_append, List.nodup_append] at nd2
  refine ⟨upd F a (.dK xs), g.trans gg, ⟨fun b u h => ?_, fun b u h => ?_, e.fr, nd2.1, fun q hq => ?_, e.ln, fun i w h => ?_, fun q hq => ?_⟩⟩
  · by_cases hb : b = a
    · subst hb; rw [upd_same] at h; cases h; rfl
    · rw [upd_ne hb] at h; exact e.nz b u h
  · by_cases hb : b = a
    · subst hb; rw [upd_same] at h; cases h; exact .inl ha
    · rw [upd_ne hb] at h; exact e.fz b u h
  · obtain ⟨h1, h2, h3⟩ := e.ce q (List.mem_append_left _ hq)
    have nq : q.1 ≠ a := fun z => nd2.2.2 q.1 (List.mem_map.mpr ⟨q, hq, rfl⟩) a (by simp) z
    exact ⟨by rw [upd_ne nq]; exact h1, h2, ndok_gr e.nz gg h3⟩
  · obtain ⟨v, h1, h2⟩ := e.sl i w h
    exact ⟨v, h1, wok_gr e.nz gg h2⟩
  · rcases List.mem_cons.mp hq with rfl | hq
    · exact ⟨a, xs, rfl, .inl upd_same, RpK.mono gg.sub.exz e.nz _ _ rl⟩
    · exact wok_gr e.nz gg (e.tm q hq)
theorem EvN.lst {ds : List D} (h : EvN K te ro ka (.lst ds) k1) : EvD K te ro ka (.val (.lst ds)) k1 := fun B F0 ta sg H Q e q => h B F0 ta sg H Q e fun a H1 e1 => q _ _ e1.freeze_l
theorem EvN.dic {ds : List (Key × D)} (h : EvN K te ro ka (.dic ds) k1) : EvD K te ro ka (.val (.dic ds)) k1 := fun B F0 ta sg H Q e q => h B F0 ta sg H Q e fun a H1 e1 => q _ _ e1.freeze_k

/-! ### tests -/
theorem et_test {b : Bool} (h : EvD K te ro ka (.val (.bl b)) k1) : EvT K (tTest te) ro ka b k1 := fun B F0 ta sg H Q e q => h B F0 ta sg H _ e fun v H1 e1 => ⟨b, e1.tm_bl List.mem_cons_self, q H1 e1.pop⟩
theorem et_B {b : Bool} (h : EvD K te ro ka (.val (.bl b)) k1) : EvT K (tB te) ro ka b k1 := fun B F0 ta sg H Q e q => h B F0 ta sg H _ e fun v H1 e1 => ⟨b, e1.tm_bl List.mem_cons_self, q H1 e1.pop⟩
theorem et_not {a : Bool} (h : EvT K tt ro ka a k1) : EvT K (tNot tt) ro ka (!a) k1 := fun B F0 ta sg H Q e q => h B F0 ta sg H _ e fun H1 e1 => q H1 e1
/-- and, or: k2 is reached in any case -/
theorem et_and {a b : Bool} (h1 : EvT K tt ro ka a k1) (h2 : a = true → EvT K tu ro k1 b k1) : EvT K (tAnd tt tu) ro ka (a && b) k1 := fun B F0 ta sg H Q e q => h1 B F0 ta sg H _ e fun H1 e1 => by
  cases a with
  | true => exact h2 rfl B F0 ta sg H1 Q e1 q
  | false => exact q H1 e1
theorem et_or {a b : Bool} (h1 : EvT K tt ro ka a k1) (h2 : a = false → EvT K tu ro k1 b k1) : EvT K (tOr tt tu) ro ka (a || b) k1 := fun B F0 ta sg H Q e q => h1 B F0 ta sg H _ e fun H1 e1 => by
  cases a with
  | true => exact q H1 e1
  | false => exact h2 rfl B F0 ta sg H1 Q e1 q
theorem et_and1 {b : Bool} (h1 : EvT K tt ro ka true k1) (h2 : EvT K tu ro k1 b k2) : EvT K (tAnd tt tu) ro ka b k2 := fun B F0 ta sg H Q e q => h1 B F0 ta sg H _ e fun H1 e1 => h2 B F0 ta sg H1 Q e1 q
theorem et_and0 (h1 : EvT K tt ro ka false k1) : EvT K (tAnd tt tu) ro ka false k1 := fun B F0 ta sg H Q e q => h1 B F0 ta sg H _ e fun H1 e1 => q H1 e1
theorem et_or0 {b : Bool} (h1 : EvT K tt ro ka false k1) (h2 : EvT K tu ro k1 b k2) : EvT K (tOr tt tu) ro ka b k2 := fun B F0 ta sg H Q e q => h1 B F0 ta sg H _ e fun H1 e1 => h2 B F0 ta sg H1 Q e1 q
theorem et_or1 (h1 : EvT K tt ro ka true k1) : EvT K (tOr tt tu) ro ka true k1 := fun B F0 ta sg H Q e q => h1 B F0 ta sg H _ e fun H1 e1 => q H1 e1
theorem EvT.to {a b : Bool} (h : EvT K tt ro ka a k1) (e : a = b) : EvT K tt ro ka b k1 := e ▸ h
theorem EvD.to {w' : W} (h : EvD K te ro ka w k1) (e : w = w') : EvD K te ro ka w' k1 := e ▸ h
theorem EvD.imm {d : D} (h : EvD K te ro ka (.vw d) k1) (i : imm d = true) : EvD K te ro ka (.val d) k1 := fun B F0 ta sg H Q e q => h B F0 ta sg H _ e fun v H1 e1 => q v H1 (by
  obtain ⟨F, g, e1⟩ := e1
  have h1 := e1.tm _ List.mem_cons_self
  exact ⟨F, g, (e1.held (ta' := ta) fun p hp => List.mem_cons_of_mem _ hp).push (imm_any i h1)⟩)
theorem EvD.vw {d : D} (h : EvD K te ro ka (.val d) k1) : EvD K te ro ka (.vw d) k1 := fun B F0 ta sg H Q e q => h B F0 ta sg H _ e fun v H1 e1 => q v H1 (by
  obtain ⟨F, g, e1⟩ := e1
  exact ⟨F, g, (e1.held (ta' := ta) fun p hp => List.mem_cons_of_mem _ hp).push (wok_vw e1.nz (e1.tm _ List.mem_cons_self))⟩)
theorem ev_andV {a b : Bool} (h1 : EvD K te ro ka (.val (.bl a)) k1) (h2 : a = true → EvD K tf ro k1 (.val (.bl b)) k1) : EvD K (tAndV te tf) ro ka (.val (.bl (a && b))) k1 := fun B F0 ta sg H Q e q => h1 B F0 ta sg H _ e fun v H1 e1 => ⟨a, e1.tm_bl List.mem_cons_self, by
  have hv := e1.tm_bl List.mem_cons_self
  cases a with
  | true => exact h2 rfl B F0 ta sg H1 Q e1.pop q
  | false => subst hv; exact q _ H1 e1⟩
theorem ev_orV {a b : Bool} (h1 : EvD K te ro ka (.val (.bl a)) k1) (h2 : a = false → EvD K tf ro k1 (.val (.bl b)) k1) : EvD K (tOrV te tf) ro ka (.val (.bl (a || b))) k1 := fun B F0 ta sg H Q e q => h1 B F0 ta sg H _ e fun v H1 e1 => ⟨a, e1.tm_bl List.mem_cons_self, by
  have hv := e1.tm_bl List.mem_cons_self
  cases a with
  | true => subst hv; exact q _ H1 e1
  | false => exact h2 rfl B F0 ta sg H1 Q e1.pop q⟩
theorem ev_ifT (h : EvT K tt ro ka true k1) (h1 : EvD K te ro k1 w k2) : EvD K (tIf tt te tf) ro ka w k2 := fun B F0 ta sg H Q e q => h B F0 ta sg H _ e fun H1 e1 => h1 B F0 ta sg H1 Q e1 q
theorem ev_ifF (h : EvT K tt ro ka false k1) (h1 : EvD K tf ro k1 w k2) : EvD K (tIf tt te tf) ro ka w k2 := fun B F0 ta sg H Q e q => h B F0 ta sg H _ e fun H1 e1 => h1 B F0 ta sg H1 Q e1 q
theorem ev_if {b : Bool} (h : EvT K tt ro ka b k1) (h1 : b = true → EvD K te ro k1 w k2) (h2 : b = false → EvD K tf ro k1 w k2) : EvD K (tIf tt te tf) ro ka w k2 := by
  cases b with
  | true => exact ev_ifT h (h1 rfl)
  | false => exact ev_ifF h (h2 rfl)

/-! ### slices' parts -/
theorem eo_none : EvO K tNoPart ro ka none ka := fun B F0 ta sg H Q e q => q H e
theorem eo_some {i : Int} (h : EvD K te ro ka (.val (.int i)) k1) : EvO K (tPart te) ro ka (some i) k1 := fun B F0 ta sg H Q e q => h B F0 ta sg H _ e fun v H1 e1 => ⟨i, e1.tm_int List.mem_cons_self, q H1 e1.pop⟩

/-! ### tuples, lists displayed -/
theorem rpl_of {B F : Hp} : ∀ {vs : List V} {ds : List D}, vs.length = ds.length → (∀ p ∈ vs.zip (ds.map W.val), WOk K B F p.1 p.2) → RpL K F ds vs
  | [], [], _, _ => rfl
  | [], _ :: _, h, _ => by cases h
  | _ :: _, [], h, _ => by cases h
  | v :: vs, d :: ds, hl, h => ⟨v, vs, rfl, h (v, .val d) List.mem_cons_self, rpl_of (by simpa using hl) fun p hp => h p (List.mem_cons_of_mem _ hp)⟩
theorem rpl_len {F : Hp} : ∀ {ds : List D} {vs : List V}, RpL K F ds vs → vs.length = ds.length
  | [], vs, h => by rw [show vs = [] from h]; rfl
  | d :: ds, vs, h => by
    obtain ⟨x, ys, rfl, _, h2⟩ := h
    rw [List.length_cons, List.length_cons, rpl_len h2]
theorem rpl_get {F : Hp} : ∀ {ds : List D} {vs : List V} {i : Nat} {d : D}, RpL K F ds vs → ds[i]? = some d → ∃ v, vs[i]? = some v ∧ Rp K F d v
  | [], _, _, _, _, e => by simp at e
  | d0 :: ds, vs, 0, d, h, e => by
    obtain ⟨x, ys, rfl, h1, _⟩ := h
    cases e
    exact ⟨x, rfl, h1⟩
  | d0 :: ds, vs, i + 1, d, h, e => by
    obtain ⟨x, ys, rfl, _, h2⟩ := h
    obtain ⟨v, q1, q2⟩ := rpl_get (i := i) (d := d) h2 (by simpa using e)
    exact ⟨v, by simpa using q1, q2⟩
theorem rpl_app {F : Hp} : ∀ {ds es : List D} {xs ys : List V}, RpL K F ds xs → RpL K F es ys → RpL K F (ds ++ es) (xs ++ ys)
  | [], es, xs, ys, h, h2 => by rw [show xs = [] from h]; exact h2
  | d :: ds, es, xs, ys, h, h2 => by
    obtain ⟨x, zs, rfl, h1, h3⟩ := h
    exact ⟨x, zs ++ ys, rfl, h1, rpl_app h3 h2⟩
theorem rpl_drop {F : Hp} : ∀ (n : Nat) {ds : List D} {xs : List V}, RpL K F ds xs → RpL K F (ds.drop n) (xs.drop n)
  | 0, _, _, h => h
  | n + 1, [], xs, h => by rw [show xs = [] from h]; rfl
  | n + 1, d :: ds, xs, h => by
    obtain ⟨x, ys, rfl, _, h2⟩ := h
    exact rpl_drop n h2
theorem rpl_take {F : Hp} : ∀ (n : Nat) {ds : List D} {xs : List V}, RpL K F ds xs → RpL K F (ds.take n) (xs.take n)
  | 0, _, _, _ => rfl
  | n + 1, [], xs, h => by rw [show xs = [] from h]; rfl
  | n + 1, d :: ds, xs, h => by
    obtain ⟨x, ys, rfl, h1, h2⟩ := h
    exact ⟨x, ys.take n, rfl, h1, rpl_take n h2⟩
theorem rpl_set {F : Hp} : ∀ {ds : List D} {xs : List V} (i : Nat) {d : D} {v : V}, RpL K F ds xs → Rp K F d v → RpL K F (ds.set i d) (xs.set i v)
  | [], xs, _, _, _, h, _ => by rw [show xs = [] from h]; rfl
  | d :: ds, xs, 0, _, _, h, q => by
    obtain ⟨x, ys, rfl, h1, h2⟩ := h
    exact ⟨_, ys, rfl, q, h2⟩
  | d :: ds, xs, i + 1, _, _, h, q => by
    obtain ⟨x, ys, rfl, h1, h2⟩ := h
    exact ⟨x, _, rfl, h1, rpl_set i h2 q⟩
theorem rpl_rev {F : Hp} : ∀ {ds : List D} {xs : List V}, RpL K F ds xs → RpL K F ds.reverse xs.reverse
  | [], xs, h => by rw [show xs = [] from h]; rfl
  | d :: ds, xs, h => by
    obtain ⟨x, ys, rfl, h1, h2⟩ := h
    rw [List.reverse_cons, List.reverse_cons]
    exact rpl_app (rpl_rev h2) ⟨x, [], rfl, h1, rfl⟩
theorem ev_tup {ds : List D} (h : EvA K tr ro ka (ds.map W.val) k1) (hl : ds.length ≤ 100000 := by decide) : EvD K (tTup tr) ro ka (.val (.tup ds)) k1 := fun B F0 ta sg H Q e q => h B F0 ta sg H _ e fun vs H1 hvl e1 => by
  rw [List.length_map] at hvl
  refine ⟨Nat.le_trans (by rw [hvl]; exact hl) (by decide : 100000 ≤ sizeLine), fun p hp => q _ _ ?_⟩
  obtain ⟨F, g, e1⟩ := e1
  obtain ⟨e2, g2⟩ := e1.lay (o := .tup vs) hp rfl
  refine ⟨_, g.trans g2, (e2.held (ta' := ta) fun p hp => List.mem_append_right _ hp).push ⟨p, vs, rfl, .inl (.inl upd_same), ?_⟩⟩
  exact RpL.mono g2.sub.exz e1.nz _ _ (rpl_of hvl fun z hz => e1.tm z (List.mem_append_left _ hz))
theorem evn_lst {ds : List D} (h : EvA K tr ro ka (ds.map W.val) k1) (hl : ds.length ≤ 100000 := by decide) : EvN K (tLst tr) ro ka (.lst ds) k1 := fun B F0 ta sg H Q e q => h B F0 ta sg H _ e fun vs H1 hvl e1 => by
  rw [List.length_map] at hvl
  refine ⟨Nat.le_trans (by rw [hvl]; exact hl) (by decide : 100000 ≤ sizeLine), fun p hp => q _ _ ?_⟩
  obtain ⟨F, g, e1⟩ := e1
  refine ⟨F, g, (e1.cell (o := .lst vs) hp (n := .lst ds) ⟨vs, upd_same, rpl_of hvl fun z hz => e1.tm z (List.mem_append_left _ hz)⟩).held fun p hp => List.mem_append_right _ hp⟩
end
end DL

/-! DC: operations by data (own work). -/
namespace DL
open PySem L2

/-! ### universal operators: each of the ways that this text takes -/
abbrev rAddI : R2 := rI0 fun i j => .int (i + j)
abbrev rAddS : R2 := fun x y H Q => ∃ i j, x = .str i ∧ y = .str j ∧ i.length + j.length ≤ sizeLine ∧ Q (.str (i ++ j)) H
/-- list + list, locked or not -/
def rCatR : R2 := fun x y H Q => ∃ l b xs zs, x = .ref l ∧ y = .ref b ∧ Rd H l (.lst xs) ∧ Rd H b (.lst zs) ∧ xs.length + zs.length ≤ sizeLine ∧ ∀ p, H p = none → Q (.ref p) (upd H p (.lst (xs ++ zs)))
section
variable {X : Cx}
theorem op_catR : OpR X (binaryOp .Add) rCatR := fun pins s sg H x y v u Q I rx ry h => by
  obtain ⟨l, b, xs, zs, ex, ey, h1, h2, hz, q⟩ := h
  subst ex ey
  cases rx
  cases ry
  have ⟨_, us, _, r, e⟩ := h1.ok I.hok
  have ⟨_, ws, _, r2, e2⟩ := h2.ok I.hok
  have lens : us.length + ws.length ≤ sizeLine := by rw [← r.length, ← r2.length]; exact hz
  refine PySem.P.add_list e e2 ?_ (show us.toArray.size + ws.toArray.size ≤ _ by rw [us.size_toArray, ws.size_toArray]; exact lens)
  rw [List.append_toArray]
  exact ⟨.ref _, _, I.lnew (t' := s.toks) (r.append r2) (xs.length_append ▸ hz), rfl, q _ I.fresh⟩
def rAddU (K : PySem.W.Frag) : R2 := fun x y H Q => rAddI x y H Q ∨ (fun x y H Q => rAddS x y H Q ∨ (fun x y H Q => rCatR x y H Q ∨ rCatA K x y H Q) x y H Q) x y H Q
theorem op_addU : OpR X (binaryOp .Add) (rAddU X.K) := op_add.or (op_add_str.or (op_catR.or op_catA))
/-- s * n for texts -/
abbrev rSubI : R2 := rI0 fun i j => .int (i - j)
abbrev rPowI : R2 := rI CPow fun i j => .int (i ^ j.toNat)
abbrev rModI : R2 := rI (fun _ j => 0 < j) fun i j => .int (i % j)
abbrev rDivI : R2 := rI CDiv fun i j => .int (i / j)
abbrev rLtI : R2 := rI0 fun i j => .bl (decide (i < j))
abbrev rGtI : R2 := rI0 fun i j => .bl (decide (j < i))
abbrev rGeI : R2 := rI0 fun i j => .bl (decide (j ≤ i))
end

section
variable {K : PySem.W.Frag} {B F0 : Hp} {ro : Ro} {ka k1 k2 k3 : Cells} {ta : List (V × W)} {sg : L2.St} {H : Hp} {te tf tg : TE} {tl th : TO} {tr : TA} {w x y z : W} {n : Nd} {r : R2}

/-! ### numbers -/
theorem rv_I0 {g : Int → Int → V} {i j : Int} {d : D} (h : ∀ F, Rp K F d (g i j)) : RvD K (rI0 g) ka (.val (.int i)) (.val (.int j)) (.val d) := fun B F0 ro ta sg H u v Q e h1 h2 q =>
  ⟨i, j, e.tm_int h1, e.tm_int h2, q _ _ (e.push_imm fun F => h F)⟩
theorem rv_I {C : Int → Int → Prop} {g : Int → Int → V} {i j : Int} {d : D} (c : C i j) (h : ∀ F, Rp K F d (g i j)) : RvD K (rI C g) ka (.val (.int i)) (.val (.int j)) (.val d) := fun B F0 ro ta sg H u v Q e h1 h2 q =>
  ⟨i, j, e.tm_int h1, e.tm_int h2, c, q _ _ (e.push_imm fun F => h F)⟩
theorem rv_addI {i j : Int} : RvD K (rAddU K) ka (.val (.int i)) (.val (.int j)) (.val (.int (i + j))) := rvd_l (rv_I0 fun _ => rfl)
theorem rv_addS {i j : Str} (h : i.length + j.length ≤ 100000) : RvD K (rAddU K) ka (.val (.str i)) (.val (.str j)) (.val (.str (i ++ j))) := rvd_r (rvd_l fun B F0 ro ta sg H u v Q e h1 h2 q =>
  ⟨i, j, e.tm_str h1, e.tm_str h2, Nat.le_trans h (by decide), q _ _ (e.push_imm fun F => rfl)⟩)
theorem rv_sub {i j : Int} : RvD K rSubI ka (.val (.int i)) (.val (.int j)) (.val (.int (i - j))) := rv_I0 fun _ => rfl
theorem rv_pow {i j : Int} (c : CPow i j) : RvD K rPowI ka (.val (.int i)) (.val (.int j)) (.val (.int (i ^ j.toNat))) := rv_I c fun _ => rfl
theorem rv_mod {i j : Int} (c : 0 < j) : RvD K rModI ka (.val (.int i)) (.val (.int j)) (.val (.int (i % j))) := rv_I c fun _ => rfl
theorem rv_div {i j : Int} (c : CDiv i j) : RvD K rDivI ka (.val (.int i)) (.val (.int j)) (.val (.int (i / j))) := rv_I c fun _ => rfl
theorem rv_lt {i j : Int} : RvD K rLtI ka (.val (.int i)) (.val (.int j)) (.val (.bl (decide (i < j)))) := rv_I0 fun _ => rfl
theorem rv_gt {i j : Int} : RvD K rGtI ka (.val (.int i)) (.val (.int j)) (.val (.bl (decide (j < i)))) := rv_I0 fun _ => rfl
theorem rv_ge {i j : Int} : RvD K rGeI ka (.val (.int i)) (.val (.int j)) (.val (.bl (decide (j ≤ i)))) := rv_I0 fun _ => rfl
theorem ru_neg {i : Int} : RuD K (rU fun i => .int (-i)) ka (.val (.int i)) (.val (.int (-i))) := fun B F0 ro ta sg H u Q e h1 q => ⟨i, e.tm_int h1, q _ _ (e.push_imm fun F => rfl)⟩

/-! ### sequences: what stands behind a value -/
/-- w is a sequence of ds: t: a tuple; b: viewed -/
inductive Lk (ka : Cells) : W → Bool → List D → Bool → Prop where
  | vl {ds} : Lk ka (.val (.lst ds)) false ds false
  | vt {ds} : Lk ka (.val (.tup ds)) true ds false
  | wl {ds} : Lk ka (.vw (.lst ds)) false ds true
  | wt {ds} : Lk ka (.vw (.tup ds)) true ds true
  | ce {a ds} (j : Nat) (h : ka[j]? = some (a, .lst ds)) : Lk ka (.val (.adr a)) false ds false
def SqB (K : PySem.W.Frag) (t : Bool) (H : Hp) (a : Addr) (xs : List V) : Prop := if t then SqT K H a xs else Rd H a (.lst xs)
theorem SqB.sq {t : Bool} {a : Addr} {xs : List V} (h : SqB K t H a xs) : SqL K H a xs ∨ SqT K H a xs := by
  cases t with
  | true => exact .inr h
  | false => exact .inl (.inl h)
/-- what a sequence's value is, its items over a heap G that H holds -/
theorem Lk.get {F : Hp} {t b : Bool} {ds : List D} {v : V} (l : Lk ka w t ds b) (e : EnF K B F ro ka ta sg H) (h : WOk K B F v w) :
    ∃ a xs, v = .ref a ∧ SqB K t H a xs ∧ RpL K (if b then uni B F else F) ds xs := by
  cases l with
  | vl =>
    obtain ⟨a, xs, rfl, h1, h2⟩ := h
    exact ⟨a, xs, rfl, e.fz.rd e.nz h1, h2⟩
  | vt =>
    obtain ⟨a, xs, rfl, h1, h2⟩ := h
    exact ⟨a, xs, rfl, sqT_mono e.fz e.nz h1, h2⟩
  | wl =>
    obtain ⟨a, xs, rfl, h1, h2⟩ := h
    exact ⟨a, xs, rfl, (uni_exz e.fz e.fr).rd (uni_nz e.nz) h1, h2⟩
  | wt =>
    obtain ⟨a, xs, rfl, h1, h2⟩ := h
    exact ⟨a, xs, rfl, sqT_mono (uni_exz e.fz e.fr) (uni_nz e.nz) h1, h2⟩
  | @ce a ds j hj =>
    obtain ⟨_, _, xs, h1, h2⟩ := e.ce _ (List.mem_of_getElem? hj)
    have hv : v = .ref a := h
    exact ⟨a, xs, hv, .inl h1, h2⟩
theorem Lk.at {F : Hp} {t b : Bool} {ds : List D} {v : V} (l : Lk ka w t ds b) (e : EnF K B F ro ka ta sg H) (h : WOk K B F v w) :
    ∃ a xs, v = .ref a ∧ (SqL K H a xs ∨ SqT K H a xs) ∧ RpL K (if b then uni B F else F) ds xs :=
  let ⟨a, xs, h1, h2, h3⟩ := l.get e h
  ⟨a, xs, h1, h2.sq, h3⟩

/-! ### len -/
/-- len: sequences, texts, dicts -/
def rLenU (K : PySem.W.Frag) : List V → Hp → VK → Prop := fun xs H Q => (fun xs H Q => ∃ p ys, xs = [.ref p] ∧ (SqL K H p ys ∨ SqT K H p ys) ∧ Q (.int ys.length) H) xs H Q ∨ (fun xs H Q => ∃ z, xs = [.str z] ∧ z.length ≤ sizeLine ∧ Q (.int z.length) H) xs H Q
theorem call_lenU {X : Cx} : CallR X (.builtin "len") (rLenU X.K) := call_len_seq.or call_len_str
theorem zip_one {us : List V} {x : W} (h : us.length = [x].length) (hm : ∀ p ∈ us.zip [x], p ∈ ta) : ∃ u, us = [u] ∧ (u, x) ∈ ta := by
  match us, h with
  | [u], _ => exact ⟨u, rfl, hm _ List.mem_cons_self⟩
theorem zip_two {us : List V} {x y : W} (h : us.length = [x, y].length) (hm : ∀ p ∈ us.zip [x, y], p ∈ ta) : ∃ u v, us = [u, v] ∧ (u, x) ∈ ta ∧ (v, y) ∈ ta := by
  match us, h with
  | [u, v], _ => exact ⟨u, v, rfl, hm _ List.mem_cons_self, hm _ (List.mem_cons_of_mem _ List.mem_cons_self)⟩
theorem rc_len {t b : Bool} {ds : List D} (l : Lk ka w t ds b) : RcD K (rLenU K) ka [w] (.val (.int ds.length)) := rcd_l fun B F0 ro ta sg H us Q e hl hm q => by
  obtain ⟨u, rfl, hu⟩ := zip_one hl hm
  obtain ⟨F, g, e⟩ := e
  obtain ⟨a, xs, rfl, h1, h2⟩ := l.at e (e.tm _ hu)
  refine ⟨a, xs, rfl, h1, ?_⟩
  rw [rpl_len h2]
  exact q _ _ ⟨F, g, e.push rfl⟩
theorem rc_lenS {s : Str} (h : s.length ≤ 100000) : RcD K (rLenU K) ka [.val (.str s)] (.val (.int s.length)) := rcd_r fun B F0 ro ta sg H us Q e hl hm q => by
  obtain ⟨u, rfl, hu⟩ := zip_one hl hm
  have hv := e.tm_str hu
  subst hv
  exact ⟨s, rfl, Nat.le_trans h (by decide), q _ _ (e.push_imm fun _ => rfl)⟩

/-! ### items -/
theorem atI_map {α β : Type} {f : α → β → Prop} {xs : List α} {ys : List β} (hl : xs.length = ys.length) {i : Int} {y : β} (h : atI ys i = some y) (hf : ∀ (j : Nat) y, ys[j]? = some y → ∃ x, xs[j]? = some x ∧ f x y) : ∃ x, atI xs i = some x ∧ f x y := by
  unfold atI at h ⊢
  rw [hl]
  cases q : ixN ys.length i with
  | none => rw [q] at h; cases h
  | some j =>
    rw [q] at h
    exact hf j y h
theorem rv_ix {t b : Bool} {ds : List D} {i : Int} {d : D} (l : Lk ka w t ds b) (hd : atI ds i = some d) : RvD K (rIx K) ka w (.val (.int i)) (part b d) := fun B F0 ro ta sg H u v Q e h1 h2 q => by
  have hv := e.tm_int h2
  subst hv
  obtain ⟨F, g, e⟩ := e
  obtain ⟨a, xs, rfl, s1, s2⟩ := l.at e (e.tm _ h1)
  obtain ⟨z, hz, rz⟩ := atI_map (f := fun x d => Rp K (if b then uni B F else F) d x) (rpl_len s2) hd fun j y hy => rpl_get s2 hy
  have fin := q z H ⟨F, g, e.push (wok_part b rz)⟩
  rcases s1 with s1 | s1
  · exact .inl ⟨a, xs, i, z, rfl, rfl, s1, hz, fin⟩
  · exact .inr (.inl ⟨a, xs, i, z, rfl, rfl, s1, hz, fin⟩)
theorem rv_ixS {s : Str} {i : Int} {c : Nat} (hs : s.length ≤ 100000) (hc : atI s.cps.toList i = some c) : RvD K (rIx K) ka (.val (.str s)) (.val (.int i)) (.val (.str ⟨#[c]⟩)) := fun B F0 ro ta sg H u v Q e h1 h2 q =>
  .inr (.inr ⟨s, i, c, e.tm_str h1, e.tm_int h2, Nat.le_trans hs (by decide), hc, q _ _ (e.push_imm fun _ => rfl)⟩)

/-! ### slices -/
abbrev rSlU (K : PySem.W.Frag) : V → Option Int → Option Int → Hp → VK → Prop := fun x lo hi H Q => rSlL K x lo hi H Q ∨ (fun x lo hi H Q => rSlA K x lo hi H Q ∨ rSlS x lo hi H Q) x lo hi H Q
theorem sl_U {X : Cx} : SlR X (rSlU X.K) := sl_list.or (sl_tupA.or sl_str)
def cutD {α : Type} (xs : List α) (lo hi : Option Int) : List α := (xs.drop (HT.sIx xs.length 0 lo)).take (HT.sIx xs.length xs.length hi - HT.sIx xs.length 0 lo)
theorem rpl_cut {F : Hp} {ds : List D} {xs : List V} (h : RpL K F ds xs) (lo hi : Option Int) : RpL K F (cutD ds lo hi) (cutV xs lo hi) := by
  unfold cutD cutV
  rw [rpl_len h]
  exact rpl_take _ (rpl_drop _ h)
theorem evn_sl {lo hi : Option Int} {ds : List D} (ha : EvD K te ro ka w k1) (h1 : EvO K tl ro k1 lo k2) (h2 : EvO K th ro k2 hi k3) (l : Lk k3 w false ds false) : EvN K (tSl (rSlU K) te tl th) ro ka (.lst (cutD ds lo hi)) k3 := fun B F0 ta sg H Q e q =>
  ha B F0 ta sg H _ e fun u H1 e1 => h1 B F0 _ sg H1 _ e1 fun H2 e2 => h2 B F0 _ sg H2 _ e2 fun H3 e3 => by
    obtain ⟨F, g, e3⟩ := e3
    obtain ⟨a, xs, rfl, s1, s2⟩ := l.get e3 (e3.tm _ List.mem_cons_self)
    refine .inl ⟨a, xs, rfl, .inl s1, fun p hp => q p _ ?_⟩
    exact ⟨F, g, (e3.cell (o := .lst (cutV xs lo hi)) hp (n := .lst (cutD ds lo hi)) ⟨_, upd_same, rpl_cut s2 lo hi⟩).held fun p hp => List.mem_cons_of_mem _ hp⟩
theorem ev_slT {lo hi : Option Int} {ds : List D} (ha : EvD K te ro ka (.val (.tup ds)) k1) (h1 : EvO K tl ro k1 lo k2) (h2 : EvO K th ro k2 hi k3) : EvD K (tSl (rSlU K) te tl th) ro ka (.val (.tup (cutD ds lo hi))) k3 := fun B F0 ta sg H Q e q =>
  ha B F0 ta sg H _ e fun u H1 e1 => h1 B F0 _ sg H1 _ e1 fun H2 e2 => h2 B F0 _ sg H2 _ e2 fun H3 e3 => by
    obtain ⟨F, g, e3⟩ := e3
    obtain ⟨a, xs, rfl, s1, s2⟩ := Lk.vt.get e3 (e3.tm _ List.mem_cons_self)
    have hk := e3.tm _ List.mem_cons_self
    refine .inr (.inl ⟨a, xs, rfl, s1, fun hw => q _ _ ⟨F, g, (e3.held (ta' := ta) fun p hp => List.mem_cons_of_mem _ hp).push ?_⟩, fun _ p hp => q (.ref p) _ ?_⟩)
    · have e0 : cutD ds lo hi = ds := by
        unfold cutD
        rw [← rpl_len s2, hw.1, hw.2]
        simp
        exact List.take_of_length_le (by rw [rpl_len s2]; exact Nat.le_refl _)
      rw [e0]
      exact hk
    · obtain ⟨e4, g4⟩ := e3.lay (o := .tup (cutV xs lo hi)) hp rfl
      exact ⟨_, g.trans g4, (e4.held (ta' := ta) fun p hp => List.mem_cons_of_mem _ hp).push ⟨p, _, rfl, .inl (.inl upd_same), RpL.mono g4.sub.exz e3.nz _ _ (rpl_cut s2 lo hi)⟩⟩
theorem ev_slS {lo hi : Option Int} {s : Str} (ha : EvD K te ro ka (.val (.str s)) k1) (h1 : EvO K tl ro k1 lo k2) (h2 : EvO K th ro k2 hi k3) (hs : s.length ≤ 100000) : EvD K (tSl (rSlU K) te tl th) ro ka (.val (.str (cutS s lo hi))) k3 := fun B F0 ta sg H Q e q =>
  ha B F0 ta sg H _ e fun u H1 e1 => h1 B F0 _ sg H1 _ e1 fun H2 e2 => h2 B F0 _ sg H2 _ e2 fun H3 e3 =>
    .inr (.inr ⟨s, e3.tm_str List.mem_cons_self, Nat.le_trans hs (by decide), q _ _ (e3.pop.push_imm fun _ => rfl)⟩)

/-! ### list + list, tuple + tuple -/
theorem rvn_cat {b1 b2 : Bool} {ds es : List D} (l1 : Lk ka x false ds false) (l2 : Lk ka y false es false) (hz : ds.length + es.length ≤ 100000) : RvN K (rAddU K) ka x y (.lst (ds ++ es)) :=
  rvn_r (rvn_r (rvn_l fun B F0 ro ta sg H u v Q e h1 h2 q => by
    obtain ⟨F, g, e⟩ := e
    obtain ⟨a, xs, rfl, s1, r1⟩ := l1.get e (e.tm _ h1)
    obtain ⟨b, ys, rfl, s2, r2⟩ := l2.get e (e.tm _ h2)
    refine ⟨a, b, xs, ys, rfl, rfl, s1, s2, by rw [rpl_len r1, rpl_len r2]; exact Nat.le_trans hz (by decide), fun p hp => q p _ ?_⟩
    exact ⟨F, g, e.cell (o := .lst (xs ++ ys)) hp (n := .lst (ds ++ es)) ⟨_, upd_same, rpl_app r1 r2⟩⟩))
end
end DL

/-! DS: statements, loops, contracts by data (own work). -/
namespace DL
open PySem L2

section
variable (K : PySem.W.Frag)
/-- from such a state P holds -/
def Gp (B F0 : Hp) (ta : List (V × W)) (P : L2.St → Hp → Prop) (ro : Ro) (ka : Cells) : Prop := ∀ sg H, En K B F0 ro ka ta sg H → P sg H
/-- how a call ends: with data, or an exception of a class, its own fields -/
inductive Out where
  | ret (d : D) | exc (C : Addr) (fs : List (Str × D)) | exc0 (C : Addr)
abbrev Ct := List W → Cells → (Out → Cells → Prop) → Prop
/-- what is wanted at a return -/
def RtOk (B F0 : Hp) (out : Out → Cells → Prop) (rt : VK) : Prop := ∀ d ka v H, out (.ret d) ka → En K B F0 [] ka [(v, .val d)] [] H → rt v H
def RxOk (B F0 : Hp) (out : Out → Cells → Prop) (E : XK) : Prop :=
  (∀ C fs ka dx H, out (.exc C fs) ka → En K B F0 [] (ka ++ [(dx, .xd fs)]) [] [] H → E (.ref C) (some dx) H) ∧
  ∀ C ka H, out (.exc0 C) ka → En K B F0 [] ka [] [] H → E (.ref C) none H
/-- the promise of a contract -/
def spC (C : Ct) : Sp := fun vs H Q E => ∃ B F args ka out, C args ka out ∧ vs.length = args.length ∧ En K B F [] ka (vs.zip args) [] H ∧ RtOk K B F out Q ∧ RxOk K B F out E
end

section
variable {K : PySem.W.Frag} {B F0 : Hp} {ro : Ro} {ka k1 k2 k3 : Cells} {ta : List (V × W)} {sg : L2.St} {H : Hp} {te tf tg : TE} {tl th : TO} {tr : TA} {tt : TT} {w x y z : W} {n : Nd} {r : R2} {De : Ends} {t u : TS} {P : L2.St → Hp → Prop}
theorem En.gp (e : En K B F0 ro ka ta sg H) (h : Gp K B F0 ta P ro ka) : P sg H := h sg H e
theorem En.set (e : En K B F0 ro ka ((v, w) :: ta) sg H) (i : Nat) : En K B F0 (ro.set i (some w)) ka ta (sg.set i (some v)) H :=
  let ⟨F, g, q⟩ := e
  ⟨F, g, (q.set (q.tm _ List.mem_cons_self) i).held fun _ h => List.mem_cons_of_mem _ h⟩
theorem En.setA (e : En K B F0 ro ka ta sg H) (i : Nat) (a : Addr) : En K B F0 (ro.set i (some (.val (.adr a)))) ka ta (sg.set i (some (.ref a))) H :=
  let ⟨F, g, q⟩ := e
  ⟨F, g, q.set (w := .val (.adr a)) rfl i⟩
theorem g_next (h : Gp K B F0 ta De.nx ro ka) : Gp K B F0 ta (tNext De) ro ka := h
theorem g_asg {i : Nat} (h : EvD K te ro ka w k1) (k : Gp K B F0 ta De.nx (ro.set i (some w)) k1) : Gp K B F0 ta (tAsg te (gName i) De) ro ka := fun sg H e => h B F0 ta sg H _ e fun v H1 e1 => k _ _ (e1.set i)
theorem g_asgN {i : Nat} (h : EvN K te ro ka n k1) (k : ∀ a, Gp K B F0 ta De.nx (ro.set i (some (.val (.adr a)))) (k1 ++ [(a, n)])) : Gp K B F0 ta (tAsg te (gName i) De) ro ka := fun sg H e => h B F0 ta sg H _ e fun a H1 e1 => k a _ _ (e1.setA i a)
theorem q_asg {i : Nat} (h : EvD K te ro ka w k1) (k : Gp K B F0 ta (u De) (ro.set i (some w)) k1) : Gp K B F0 ta (tSeq (tAsg te (gName i)) u De) ro ka := g_asg (De := { De with nx := u De }) h k
theorem q_asgN {i : Nat} (h : EvN K te ro ka n k1) (k : ∀ a, Gp K B F0 ta (u De) (ro.set i (some (.val (.adr a)))) (k1 ++ [(a, n)])) : Gp K B F0 ta (tSeq (tAsg te (gName i)) u De) ro ka := g_asgN (De := { De with nx := u De }) h k
theorem g_drop (h : EvD K te ro ka w k1) (k : Gp K B F0 ta De.nx ro k1) : Gp K B F0 ta (tDrop te De) ro ka := fun sg H e => h B F0 ta sg H _ e fun v H1 e1 => k _ _ e1.pop
theorem q_drop (h : EvD K te ro ka w k1) (k : Gp K B F0 ta (u De) ro k1) : Gp K B F0 ta (tSeq (tDrop te) u De) ro ka := g_drop (De := { De with nx := u De }) h k
theorem g_if {b : Bool} {u : TS} (h : EvT K tt ro ka b k1) (h1 : b = true → Gp K B F0 ta (t De) ro k1) (h2 : b = false → Gp K B F0 ta (u De) ro k1) : Gp K B F0 ta (tIfS tt t u De) ro ka := fun sg H e => h B F0 ta sg H _ e fun H1 e1 => by
  cases b with
  | true => exact h1 rfl _ _ e1
  | false => exact h2 rfl _ _ e1
/-- an if without else -/
theorem q_when {b : Bool} (h : EvT K tt ro ka b k1) (h1 : b = true → Gp K B F0 ta (t { De with nx := u De }) ro k1) (h2 : b = false → Gp K B F0 ta (u De) ro k1) : Gp K B F0 ta (tSeq (tIfS tt t tNext) u De) ro ka := g_if (De := { De with nx := u De }) h h1 h2
theorem En.leave (e : En K B F0 ro ka ((v, w) :: ta) sg H) : En K B F0 [] ka [(v, w)] [] H :=
  let ⟨F, g, q⟩ := e
  ⟨F, g, (q.frame (ro' := []) (sg' := []) rfl fun i w h => by simp at h).held fun p hp => by
    have : p = (v, w) := by simpa using hp
    rw [this]
    exact List.mem_cons_self⟩
theorem g_ret {out : Out → Cells → Prop} {d : D} {De : Ends} (hr : RtOk K B F0 out De.rt) (h : EvD K te ro ka (.val d) k1) (o : out (.ret d) k1) : Gp K B F0 ta (tRet te De) ro ka := fun sg H e => h B F0 ta sg H _ e fun v H1 e1 => hr d k1 v H1 o e1.leave
/-- the body's end without a return -/
theorem g_end {out : Out → Cells → Prop} {Q : VK} (hr : RtOk K B F0 out Q) (o : out (.ret .non) ka) : Gp K B F0 ta (fun _ H' => Q .non H') ro ka := fun sg H e => hr .non ka .non H o ((e.push_imm (v := .non) (w := .val .non) fun _ => rfl).leave)
/-! ### cells changed -/
theorem EnF.rd_lst {F : Hp} (e : EnF K B F ro ka ta sg H) {j : Nat} {a : Addr} {ds : List D} (hj : ka[j]? = some (a, .lst ds)) : ∃ xs, H a = some (.lst xs) ∧ RpL K F ds xs := (e.ce _ (List.mem_of_getElem? hj)).2.2
theorem g_app {j0 j : Nat} {a : Addr} {ds0 ds : List D} {d : D} {De : Ends} (ho : EvD K te ro ka (.val (.adr a)) k1) (h0 : k1[j0]? = some (a, .lst ds0)) (he : EvD K tf ro k1 (.val d) k2) (hj : k2[j]? = some (a, .lst ds)) (hz : ds.length < 100000)
    (k : Gp K B F0 ta De.nx ro (k2.set j (a, .lst (ds ++ [d])))) : Gp K B F0 ta (tDrop (tBM K "list" rAppend te (tCons tf tNil)) De) ro ka := fun sg H e => ho B F0 ta sg H _ e fun u H1 e1 => by
  have hu := e1.tm_adr List.mem_cons_self
  subst hu
  refine ⟨?_, he B F0 _ sg H1 _ e1 fun v H2 e2 => ?_⟩
  · obtain ⟨F, g, e1⟩ := e1
    obtain ⟨xs, hx, _⟩ := e1.rd_lst h0
    exact .inl ⟨rfl, xs, .inl (.inl hx)⟩
  · obtain ⟨F, g, e2⟩ := e2
    obtain ⟨xs, hx, rx⟩ := e2.rd_lst hj
    have hv := e2.tm _ List.mem_cons_self
    refine ⟨a, xs, v, rfl, rfl, hx, by rw [rpl_len rx]; exact Nat.lt_of_lt_of_le hz (by decide), k _ _ ⟨F, g, ?_⟩⟩
    exact (e2.write (o := .lst (xs ++ [v])) (n' := .lst (ds ++ [d])) hj ⟨_, upd_same, rpl_app rx ⟨v, [], rfl, hv, rfl⟩⟩).held fun p hp => List.mem_cons_of_mem _ (List.mem_cons_of_mem _ hp)
theorem q_app {j0 j : Nat} {a : Addr} {ds0 ds : List D} {d : D} {De : Ends} (ho : EvD K te ro ka (.val (.adr a)) k1) (h0 : k1[j0]? = some (a, .lst ds0)) (he : EvD K tf ro k1 (.val d) k2) (hj : k2[j]? = some (a, .lst ds)) (hz : ds.length < 100000)
    (k : Gp K B F0 ta (u De) ro (k2.set j (a, .lst (ds ++ [d])))) : Gp K B F0 ta (tSeq (tDrop (tBM K "list" rAppend te (tCons tf tNil))) u De) ro ka := g_app (De := { De with nx := u De }) ho h0 he hj hz k
/-- xs[i] = v -/
theorem g_seti {j : Nat} {a : Addr} {ds : List D} {d : D} {i : Int} {ix : Nat} {De : Ends} (he : EvD K tf ro ka (.val d) k1) (ho : EvD K te ro k1 (.val (.adr a)) k2) (hi : EvD K tg ro k2 (.val (.int i)) k3) (hj : k3[j]? = some (a, .lst ds)) (hx : ixN ds.length i = some ix)
    (k : Gp K B F0 ta De.nx ro (k3.set j (a, .lst (ds.set ix d)))) : Gp K B F0 ta (tAsg tf (gSub te tg rSetL) De) ro ka := fun sg H e => he B F0 ta sg H _ e fun v H1 e1 => ho B F0 _ sg H1 _ e1 fun u H2 e2 => hi B F0 _ sg H2 _ e2 fun i' H3 e3 => by
  have hu := e3.tm_adr (List.mem_cons_of_mem _ List.mem_cons_self)
  have hi' := e3.tm_int List.mem_cons_self
  subst hu hi'
  obtain ⟨F, g, e3⟩ := e3
  obtain ⟨xs, hxs, rx⟩ := e3.rd_lst hj
  have hv := e3.tm (v, .val d) (List.mem_cons_of_mem _ (List.mem_cons_of_mem _ List.mem_cons_self))
  refine ⟨a, xs, i, ix, rfl, rfl, hxs, by rw [rpl_len rx]; exact hx, k _ _ ⟨F, g, ?_⟩⟩
  exact (e3.write (o := .lst (xs.set ix v)) (n' := .lst (ds.set ix d)) hj ⟨_, upd_same, rpl_set ix rx hv⟩).held fun p hp => List.mem_cons_of_mem _ (List.mem_cons_of_mem _ (List.mem_cons_of_mem _ hp))
theorem q_seti {j : Nat} {a : Addr} {ds : List D} {d : D} {i : Int} {ix : Nat} {De : Ends} (he : EvD K tf ro ka (.val d) k1) (ho : EvD K te ro k1 (.val (.adr a)) k2) (hi : EvD K tg ro k2 (.val (.int i)) k3) (hj : k3[j]? = some (a, .lst ds)) (hx : ixN ds.length i = some ix)
    (k : Gp K B F0 ta (u De) ro (k3.set j (a, .lst (ds.set ix d)))) : Gp K B F0 ta (tSeq (tAsg tf (gSub te tg rSetL)) u De) ro ka := g_seti (De := { De with nx := u De }) he ho hi hj hx k

/-! ### what is walked -/
/-- wi walks through the items ws, while C holds of the cells -/
def EvI (K : PySem.W.Frag) (wi : TI) (ro : Ro) (ka : Cells) (ws : List W) (C : Cells → Prop) (ka' : Cells) : Prop := ∀ B F0 ta sg H (R : It → Hp → Prop), En K B F0 ro ka ta sg H →
  (∀ J ta' H', (∀ p ∈ ta, p ∈ ta') → En K B F0 ro ka' ta' sg H' →
    (∀ i w ro2 ka2 ta2 sg2 H2, ws[i]? = some w → C ka2 → (∀ p ∈ ta', p ∈ ta2) → En K B F0 ro2 ka2 ta2 sg2 H2 → J.go i H2 ∧ ∀ x H3, J.yld i H2 x H3 → En K B F0 ro2 ka2 ((x, w) :: ta2) sg2 H3) →
    (∀ i ro2 ka2 ta2 sg2 H2, ws.length ≤ i → C ka2 → (∀ p ∈ ta', p ∈ ta2) → En K B F0 ro2 ka2 ta2 sg2 H2 → J.stop i H2) → R J H') → wi sg H R
/-- the word between two turns -/
def Jp (K : PySem.W.Frag) (B F0 : Hp) (ta : List (V × W)) (Inv : Ro → Cells → Prop) : L2.St → Hp → Prop := fun sg H => ∃ ro ka, Inv ro ka ∧ En K B F0 ro ka ta sg H
theorem g_jp {Inv : Ro → Cells → Prop} (h : Inv ro ka) : Gp K B F0 ta (Jp K B F0 ta Inv) ro ka := fun sg H e => ⟨ro, ka, h, e⟩
theorem g_for {wi : TI} {ws : List W} {C : Cells → Prop} {g : TG} {tb : TS} {De : Ends} (h : EvI K wi ro ka ws C k1) (Inv : Nat → Ro → Cells → Prop) (h0 : Inv 0 ro k1) (hC : ∀ i ro2 ka2, Inv i ro2 ka2 → C ka2)
    (hs : ∀ i w ro2 ka2, ws[i]? = some w → Inv i ro2 ka2 → ∀ ta', Gp K B F0 ta' (fun sg H => ∀ x, En K B F0 ro2 ka2 ((x, w) :: ta') sg H → g x sg H fun sg2 H2 => tb { De with nx := Jp K B F0 ta' (Inv (i + 1)), ct := Jp K B F0 ta' (Inv (i + 1)), bk := De.nx } sg2 H2) ro2 ka2)
    (hd : ∀ ro2 ka2 ta', Inv ws.length ro2 ka2 → (∀ p ∈ ta, p ∈ ta') → Gp K B F0 ta' De.nx ro2 ka2) : Gp K B F0 ta (tFor wi g tb De) ro ka := fun sg H e =>
  h B F0 ta sg H _ e fun J ta' H1 hta e1 hgo hst => by
    refine ⟨fun i m sg H => m = ws.length - i ∧ i ≤ ws.length ∧ Jp K B F0 ta' (Inv i) sg H, ⟨ws.length, by simp, Nat.zero_le _, ro, k1, h0, e1⟩, ?_⟩
    rintro i m sg2 H2 ⟨rfl, hi, ro2, ka2, inv, e2⟩
    by_cases hlt : i < ws.length
    · obtain ⟨g1, g2⟩ := hgo i ws[i] ro2 ka2 ta' sg2 H2 (List.getElem?_eq_getElem hlt) (hC i ro2 ka2 inv) (fun p hp => hp) e2
      refine .inr ⟨g1, Jp K B F0 ta' (Inv (i + 1)), fun sg' H' q => ⟨ws.length - (i + 1), by omega, rfl, hlt, q⟩, fun x H3 y => ?_⟩
      have e3 := g2 x H3 y
      exact hs i ws[i] ro2 ka2 (List.getElem?_eq_getElem hlt) inv ta' sg2 H3 e3.pop x e3
    · have ei : i = ws.length := by omega
      subst ei
      exact .inl ⟨hst _ ro2 ka2 ta' sg2 H2 (Nat.le_refl _) (hC _ ro2 ka2 inv) (fun p hp => hp) e2, hd ro2 ka2 ta' inv hta sg2 H2 e2⟩
/-- .. the target a name -/
theorem g_forn {wi : TI} {ws : List W} {C : Cells → Prop} {j : Nat} {tb : TS} {De : Ends} (h : EvI K wi ro ka ws C k1) (Inv : Nat → Ro → Cells → Prop) (h0 : Inv 0 ro k1) (hC : ∀ i ro2 ka2, Inv i ro2 ka2 → C ka2)
    (hs : ∀ i w ro2 ka2 ta', ws[i]? = some w → Inv i ro2 ka2 → Gp K B F0 ta' (tb { De with nx := Jp K B F0 ta' (Inv (i + 1)), ct := Jp K B F0 ta' (Inv (i + 1)), bk := De.nx }) (ro2.set j (some w)) ka2)
    (hd : ∀ ro2 ka2 ta', Inv ws.length ro2 ka2 → (∀ p ∈ ta, p ∈ ta') → Gp K B F0 ta' De.nx ro2 ka2) : Gp K B F0 ta (tFor wi (gName j) tb De) ro ka :=
  g_for h Inv h0 hC (fun i w ro2 ka2 hw inv ta' sg H e x ex => hs i w ro2 ka2 ta' hw inv _ _ (ex.set j)) hd
theorem q_forn {wi : TI} {ws : List W} {C : Cells → Prop} {j : Nat} {tb : TS} {De : Ends} (h : EvI K wi ro ka ws C k1) (Inv : Nat → Ro → Cells → Prop) (h0 : Inv 0 ro k1) (hC : ∀ i ro2 ka2, Inv i ro2 ka2 → C ka2)
    (hs : ∀ i w ro2 ka2 ta', ws[i]? = some w → Inv i ro2 ka2 → Gp K B F0 ta' (tb { De with nx := Jp K B F0 ta' (Inv (i + 1)), ct := Jp K B F0 ta' (Inv (i + 1)), bk := u De }) (ro2.set j (some w)) ka2)
    (hd : ∀ ro2 ka2 ta', Inv ws.length ro2 ka2 → (∀ p ∈ ta, p ∈ ta') → Gp K B F0 ta' (u De) ro2 ka2) : Gp K B F0 ta (tSeq (tFor wi (gName j) tb) u De) ro ka := g_forn (De := { De with nx := u De }) h Inv h0 hC hs hd
/-- while: a word and a number that falls -/
theorem g_while {tb : TS} {De : Ends} (Inv : Nat → Ro → Cells → Prop) (m0 : Nat) (h0 : Inv m0 ro ka)
    (hs : ∀ m ro2 ka2, Inv m ro2 ka2 → ∃ b k2, EvT K tt ro2 ka2 b k2 ∧ (b = true → Gp K B F0 ta (tb { De with nx := Jp K B F0 ta (fun r k => ∃ m', m' < m ∧ Inv m' r k), ct := Jp K B F0 ta (fun r k => ∃ m', m' < m ∧ Inv m' r k), bk := De.nx }) ro2 k2) ∧ (b = false → Gp K B F0 ta De.nx ro2 k2)) :
    Gp K B F0 ta (tWhile tt tb De) ro ka := fun sg H e => by
  refine ⟨fun m sg H => Jp K B F0 ta (Inv m) sg H, ⟨m0, ro, ka, h0, e⟩, fun m sg2 H2 ⟨ro2, ka2, inv, e2⟩ => ?_⟩
  obtain ⟨b, k2, ht, h1, h2⟩ := hs m ro2 ka2 inv
  refine ht B F0 ta sg2 H2 _ e2 fun H3 e3 => ?_
  cases b with
  | true => exact ⟨_, fun sg' H' ⟨r, k, ⟨m', hm, inv'⟩, e'⟩ => ⟨m', hm, r, k, inv', e'⟩, h1 rfl _ _ e3⟩
  | false => exact h2 rfl _ _ e3
theorem q_while {tb : TS} {De : Ends} (Inv : Nat → Ro → Cells → Prop) (m0 : Nat) (h0 : Inv m0 ro ka)
    (hs : ∀ m ro2 ka2, Inv m ro2 ka2 → ∃ b k2, EvT K tt ro2 ka2 b k2 ∧ (b = true → Gp K B F0 ta (tb { De with nx := Jp K B F0 ta (fun r k => ∃ m', m' < m ∧ Inv m' r k), ct := Jp K B F0 ta (fun r k => ∃ m', m' < m ∧ Inv m' r k), bk := u De }) ro2 k2) ∧ (b = false → Gp K B F0 ta (u De) ro2 k2)) :
    Gp K B F0 ta (tSeq (tWhile tt tb) u De) ro ka := g_while (De := { De with nx := u De }) Inv m0 h0 hs

theorem ei_range1 {tr : TA} {m : Int} (h : EvA K tr ro ka [.val (.int m)] k1) (hm : m ≤ 1000000) (hm0 : -1000000 ≤ m) : EvI K (iRng1 tr) ro ka ((List.range m.toNat).map fun i : Nat => W.val (.int (i : Int))) (fun _ => True) k1 := fun B F0 ta sg H R e q =>
  h B F0 ta sg H _ e fun vs H1 hl e1 => by
    match vs, hl with
    | [v], _ =>
      have hv := e1.tm_int (v := v) (i := m) List.mem_cons_self
      subst hv
      refine ⟨m, rfl, by omega, by omega, q _ ta H1 (fun p hp => hp) (e1.held fun p hp => List.mem_append_right _ hp) (fun i w ro2 ka2 ta2 sg2 H2 hw _ _ e2 => ?_) fun i ro2 ka2 ta2 sg2 H2 hi _ _ _ => ?_⟩
      · rw [List.getElem?_map] at hw
        cases hi : (List.range m.toNat)[i]? with
        | none => rw [hi] at hw; cases hw
        | some j =>
          rw [hi] at hw
          obtain ⟨hlt, hj⟩ := List.getElem?_eq_some_iff.mp hi
          rw [List.getElem_range] at hj
          subst hj
          cases hw
          refine ⟨by show i < _; simpa using hlt, fun x H3 ⟨e3, ex⟩ => ?_⟩
          subst e3 ex
          exact e2.push_imm fun _ => by
            show V.int (0 + (i : Int)) = V.int (i : Int)
            rw [Int.zero_add]
      · rw [List.length_map, List.length_range] at hi
        exact hi
end

/-! ### any sequence walked -/
/-- lists, tuples, texts -/
def iSeq (K : PySem.W.Frag) (tl : TE) : TI := fun sg H R => iList K tl sg H R ∨ iTup K tl sg H R ∨ iStr tl sg H R
theorem pi_seq {X : Cx} {tg : Expr} {l : Expr} {tl : TE} (hl : PE X l tl) : PI X tg l (iSeq X.K tl) :=
  ⟨fun pins s sg H R I h => h.elim ((pi_list hl).run pins s sg H R I) fun h => h.elim ((pi_tup hl).run pins s sg H R I) ((pi_str hl).run pins s sg H R I)⟩
section
variable {K : PySem.W.Frag} {ro : Ro} {ka k1 : Cells} {te : TE} {w : W}
/-- the cell that is walked stays -/
def Stay (w : W) (ds : List D) (ka : Cells) : Prop := match w with
  | .val (.adr a) => (a, Nd.lst ds) ∈ ka
  | _ => True
theorem Lk.mono {ka : Cells} {t b : Bool} {ds : List D} (l : Lk ka w t ds b) (ka2 : Cells) (h : Stay w ds ka2) : Lk ka2 w t ds b := by
  cases l with
  | vl => exact .vl
  | vt => exact .vt
  | wl => exact .wl
  | wt => exact .wt
  | ce j hj =>
    obtain ⟨j2, h2⟩ := List.getElem?_of_mem h
    exact .ce j2 h2
theorem ei_seq {t b : Bool} {ds : List D} (h : EvD K te ro ka w k1) (l : Lk k1 w t ds b) : EvI K (iSeq K te) ro ka (ds.map (part b)) (Stay w ds) k1 := fun B F0 ta sg H R e q => by
  have again : ∀ (a : Addr) ro2 ka2 ta2 sg2 H2, Stay w ds ka2 → (V.ref a, w) ∈ ta2 → En K B F0 ro2 ka2 ta2 sg2 H2 → ∃ F ys, EnF K B F ro2 ka2 ta2 sg2 H2 ∧ Gr B F0 F ∧ SqB K t H2 a ys ∧ RpL K (if b then uni B F else F) ds ys := fun a ro2 ka2 ta2 sg2 H2 hs hm e2 => by
    obtain ⟨F, g, e2⟩ := e2
    obtain ⟨a', ys, e', s2, r2⟩ := (l.mono ka2 hs).get e2 (e2.tm _ hm)
    cases e'
    exact ⟨F, ys, e2, g, s2, r2⟩
  have item : ∀ {i : Nat} {w2 : W} {F : Hp} {ys : List V}, (ds.map (part b))[i]? = some w2 → RpL K (if b then uni B F else F) ds ys → ∃ y, ys[i]? = some y ∧ WOk K B F y w2 := fun {i w2 F ys} hw r2 => by
    rw [List.getElem?_map] at hw
    cases hd : ds[i]? with
    | none => rw [hd] at hw; cases hw
    | some d =>
      rw [hd] at hw
      cases hw
      obtain ⟨y, hy, ry⟩ := rpl_get r2 hd
      exact ⟨y, hy, wok_part b ry⟩
  cases t with
  | true =>
    refine .inr (.inl (h B F0 ta sg H _ e fun v H1 e1 => ?_))
    obtain ⟨F, g, ef⟩ := id e1
    obtain ⟨a, xs, rfl, s1, r1⟩ := l.get ef (ef.tm _ List.mem_cons_self)
    refine ⟨a, rfl, ⟨xs, s1⟩, q _ ((.ref a, w) :: ta) H1 (fun p hp => List.mem_cons_of_mem _ hp) e1 (fun i w2 ro2 ka2 ta2 sg2 H2 hw hs hm e2 => ?_) fun i ro2 ka2 ta2 sg2 H2 hi hs hm e2 => ?_⟩
    · obtain ⟨F2, ys, ef2, g2, s2, r2⟩ := again a ro2 ka2 ta2 sg2 H2 hs (hm _ List.mem_cons_self) e2
      obtain ⟨y, hy, wy⟩ := item hw r2
      refine ⟨⟨ys, y, s2, hy⟩, fun x H3 ⟨e3, ex⟩ => ?_⟩
      subst e3
      have h5 := ex ys s2
      rw [hy] at h5
      cases h5
      exact ⟨F2, g2, ef2.push wy⟩
    · obtain ⟨F2, ys, ef2, g2, s2, r2⟩ := again a ro2 ka2 ta2 sg2 H2 hs (hm _ List.mem_cons_self) e2
      refine ⟨ys, s2, ?_⟩
      rw [rpl_len r2]
      rwa [List.length_map] at hi
  | false =>
    refine .inl (h B F0 ta sg H _ e fun v H1 e1 => ?_)
    obtain ⟨F, g, ef⟩ := id e1
    obtain ⟨a, xs, rfl, s1, r1⟩ := l.get ef (ef.tm _ List.mem_cons_self)
    refine ⟨a, rfl, ⟨xs, .inl s1⟩, q _ ((.ref a, w) :: ta) H1 (fun p hp => List.mem_cons_of_mem _ hp) e1 (fun i w2 ro2 ka2 ta2 sg2 H2 hw hs hm e2 => ?_) fun i ro2 ka2 ta2 sg2 H2 hi hs hm e2 => ?_⟩
    · obtain ⟨F2, ys, ef2, g2, s2, r2⟩ := again a ro2 ka2 ta2 sg2 H2 hs (hm _ List.mem_cons_self) e2
      obtain ⟨y, hy, wy⟩ := item hw r2
      refine ⟨⟨ys, y, .inl s2, hy⟩, fun x H3 ⟨e3, ex⟩ => ?_⟩
      subst e3
      have h5 := ex ys (.inl s2)
      rw [hy] at h5
      cases h5
      exact ⟨F2, g2, ef2.push wy⟩
    · obtain ⟨F2, ys, ef2, g2, s2, r2⟩ := again a ro2 ka2 ta2 sg2 H2 hs (hm _ List.mem_cons_self) e2
      refine ⟨ys, .inl s2, ?_⟩
      rw [rpl_len r2]
      rwa [List.length_map] at hi
theorem ei_str {s : Str} (h : EvD K te ro ka (.val (.str s)) k1) : EvI K (iSeq K te) ro ka (s.cps.toList.map fun c => W.val (.str ⟨#[c]⟩)) (fun _ => True) k1 := fun B F0 ta sg H R e q =>
  .inr (.inr (h B F0 ta sg H _ e fun v H1 e1 => by
    have hv := e1.tm_str List.mem_cons_self
    subst hv
    refine ⟨s, rfl, q _ ta H1 (fun p hp => hp) e1.pop (fun i w2 ro2 ka2 ta2 sg2 H2 hw _ hm e2 => ?_) fun i ro2 ka2 ta2 sg2 H2 hi _ hm e2 => ?_⟩
    · rw [List.getElem?_map] at hw
      cases hd : s.cps.toList[i]? with
      | none => rw [hd] at hw; cases hw
      | some c =>
        rw [hd] at hw
        cases hw
        have hc : s.cps[i]? = some c := by simpa using hd
        refine ⟨(Array.getElem?_eq_some_iff.mp hc).1, fun x H3 ⟨e3, c', hc', ex⟩ => ?_⟩
        subst e3 ex
        rw [hc] at hc'
        cases hc'
        exact e2.push_imm fun _ => rfl
    · show s.cps.size ≤ i
      simpa using hi))
end
end DL

/-! DT: frames, calls, comprehensions by data (own work). -/
namespace DL
open PySem L2

section
variable {K : PySem.W.Frag} {B B' F F' F0 : Hp} {ro : Ro} {ka k1 k2 k3 kr : Cells} {ta : List (V × W)} {sg : L2.St} {H H' : Hp} {te tf tg : TE} {tl th : TO} {tr : TA} {tt : TT} {w x y z : W} {n : Nd}

/-- H without the cells of kf -/
def off (H : Hp) (kf : Cells) : Hp := fun a => if a ∈ kf.map (·.1) then none else H a
theorem off_in {kf : Cells} {a : Addr} (h : a ∈ kf.map (·.1)) : off H kf a = none := if_pos h
theorem off_out {kf : Cells} {a : Addr} (h : a ∉ kf.map (·.1)) : off H kf a = H a := if_neg h
theorem off_some {kf : Cells} {a : Addr} {o : HO} (h : off H kf a = some o) : a ∉ kf.map (·.1) ∧ H a = some o := by
  unfold off at h
  split at h
  · cases h
  · rename_i q
    exact ⟨q, h⟩
theorem EnF.sub_off (e : EnF K B F ro ka ta sg H) {kf : Cells} (hk : ∀ p ∈ kf, p ∈ ka) : Sub B (off H kf) := fun a o h => by
  have na : a ∉ kf.map (·.1) := fun hm => by
    obtain ⟨p, hp, rfl⟩ := List.mem_map.mp hm
    have := (e.ce p (hk p hp)).2.1
    rw [this] at h
    cases h
  rw [off_out na]
  exact e.fr a o h
theorem uni_subB {B B' F : Hp} (h : Sub B B') : Sub (uni B F) (uni B' F) := fun a u q => by
  unfold uni at q ⊢
  cases hf : F a with
  | some o => rw [hf] at q; exact q
  | none =>
    rw [hf] at q
    cases hb : B a with
    | none => rw [hb] at q; cases q
    | some o => rw [hb] at q; rw [h a o hb]; exact q
theorem wok_subB (n : Nz F) (h : Sub B B') {v : V} {w : W} (q : WOk K B F v w) : WOk K B' F v w := by
  cases w with
  | val d => exact q
  | vw d => exact Rp.mono (uni_subB h).exz (uni_nz n) d v q
/-- the part of a state that a part of the text works on: the cells kf, all else as it stands -/
theorem EnF.into (e : EnF K B F ro (ka ++ kr) ta sg H) {ro' : Ro} {sg' : L2.St} {ta' : List (V × W)} (hl : sg'.length = ro'.length) (hs : ∀ (i : Nat) w, ro'[i]? = some (some w) → ∃ v, sg'[i]? = some (some v) ∧ WOk K B F v w) (ht : ∀ p ∈ ta', p ∈ ta) :
    EnF K (off H ka) F ro' ka ta' sg' H := by
  have hsub : Sub B (off H ka) := e.sub_off fun p hp => List.mem_append_left _ hp
  have nd := e.nd
  rw [List.map_append, List.nodup_append] at nd
  refine ⟨e.nz, e.fz, fun a o h => (off_some h).2, nd.1, fun p hp => ?_, hl, fun i w h => ?_, fun p hp => wok_subB e.nz hsub (e.tm p (ht p hp))⟩
  · obtain ⟨h1, h2, h3⟩ := e.ce p (List.mem_append_left _ hp)
    exact ⟨h1, off_in (List.mem_map.mpr ⟨p, hp, rfl⟩), h3⟩
  · obtain ⟨v, h1, h2⟩ := hs i w h
    exact ⟨v, h1, wok_subB e.nz hsub h2⟩
/-- .. and back -/
theorem EnF.back (e : EnF K B F ro (ka ++ kr) ta sg H) (g : Gr (off H ka) F F') {ro' : Ro} {sg' : L2.St} {ta' : List (V × W)} (e' : EnF K (off H ka) F' ro' k2 ta' sg' H') {tb : List (V × W)} (hb : ∀ p ∈ tb, p ∈ ta ∨ ∃ d, p.2 = .val d ∧ p ∈ ta') :
    Gr B F F' ∧ EnF K B F' ro (k2 ++ kr) tb sg H' := by
  have hsub : Sub B (off H ka) := e.sub_off fun p hp => List.mem_append_left _ hp
  have gg : Gr B F F' := ⟨g.sub, fun a h1 h2 => g.off a h1 fun q => by
    cases hb2 : B a with
    | none => exact h2 hb2
    | some o => rw [hsub a o hb2] at q; cases q⟩
  have nd := e.nd
  rw [List.map_append, List.nodup_append] at nd
  -- the cells that were left stand off what was worked on
  have left : ∀ p ∈ kr, off H ka p.1 ≠ none ∧ H' p.1 = H p.1 := fun p hp => by
    obtain ⟨h1, h2, h3⟩ := e.ce p (List.mem_append_right _ hp)
    have hn : p.1 ∉ ka.map (·.1) := fun hm => nd.2.2 _ hm _ (List.mem_map.mpr ⟨p, hp, rfl⟩) rfl
    cases q : H p.1 with
    | none => exact absurd q (ndok_ne h3)
    | some o =>
      have ho : off H ka p.1 = some o := by rw [off_out hn]; exact q
      exact ⟨by rw [ho]; exact fun z => (by cases z), e'.fr _ _ ho⟩
  refine ⟨gg, e'.nz, e'.fz, hsub.trans e'.fr, ?_, fun p hp => ?_, e.ln, fun i w h => ?_, fun p hp => ?_⟩
  · rw [List.map_append, List.nodup_append]
    refine ⟨e'.nd, nd.2.1, fun a ha b hb => ?_⟩
    obtain ⟨p, hp, rfl⟩ := List.mem_map.mp ha
    obtain ⟨q, hq, rfl⟩ := List.mem_map.mp hb
    intro z
    exact (left q hq).1 (z ▸ (e'.ce p hp).2.1)
  · rcases List.mem_append.mp hp with hp | hp
    · obtain ⟨h1, h2, h3⟩ := e'.ce p hp
      refine ⟨h1, ?_, h3⟩
      cases q : B p.1 with
      | none => rfl
      | some o => rw [hsub _ _ q] at h2; cases h2
    · obtain ⟨h1, h2, h3⟩ := e.ce p (List.mem_append_right _ hp)
      obtain ⟨l1, l2⟩ := left p hp
      exact ⟨g.off _ h1 l1, h2, ndok_at l2 (ndok_gr e.nz gg h3)⟩
  · obtain ⟨v, h1, h2⟩ := e.sl i w h
    exact ⟨v, h1, wok_gr e.nz gg h2⟩
  · rcases hb p hp with q | ⟨d, hd, q⟩
    · exact wok_gr e.nz gg (e.tm p q)
    · have h2 := e'.tm p q
      rw [hd] at h2 ⊢
      exact h2

/-! ### frames -/
theorem EvD.fr {d : D} (h : EvD K te ro ka (.val d) k2) (kr : Cells) : EvD K te ro (ka ++ kr) (.val d) (k2 ++ kr) := fun B F0 ta sg H Q e q => by
  obtain ⟨F, g, e⟩ := e
  refine h (off H ka) F ta sg H Q ⟨F, Gr.refl _ _, e.into e.ln e.sl fun p hp => hp⟩ fun v H' ⟨F', g', e'⟩ => ?_
  obtain ⟨g2, e2⟩ := e.back g' e' (tb := (v, .val d) :: ta) fun p hp => by
    rcases List.mem_cons.mp hp with rfl | hp
    · exact .inr ⟨d, rfl, List.mem_cons_self⟩
    · exact .inl hp
  exact q v H' ⟨F', g.trans g2, e2⟩
theorem EvT.fr {b : Bool} (h : EvT K tt ro ka b k2) (kr : Cells) : EvT K tt ro (ka ++ kr) b (k2 ++ kr) := fun B F0 ta sg H Q e q => by
  obtain ⟨F, g, e⟩ := e
  refine h (off H ka) F ta sg H Q ⟨F, Gr.refl _ _, e.into e.ln e.sl fun p hp => hp⟩ fun H' ⟨F', g', e'⟩ => ?_
  obtain ⟨g2, e2⟩ := e.back g' e' (tb := ta) fun p hp => .inl hp
  exact q H' ⟨F', g.trans g2, e2⟩
theorem En.perm (e : En K B F0 ro ka ta sg H) (h : k1.Perm ka) : En K B F0 ro k1 ta sg H :=
  let ⟨F, g, q⟩ := e
  ⟨F, g, q.perm h⟩
theorem EvN.fr {m : Nd} (h : EvN K te ro ka m k2) (kr : Cells) : EvN K te ro (ka ++ kr) m (k2 ++ kr) := fun B F0 ta sg H Q e q => by
  obtain ⟨F, g, e⟩ := e
  refine h (off H ka) F ta sg H Q ⟨F, Gr.refl _ _, e.into e.ln e.sl fun p hp => hp⟩ fun a H' ⟨F', g', e'⟩ => ?_
  obtain ⟨g2, e2⟩ := e.back g' e' (tb := ta) fun p hp => .inl hp
  refine q a H' ⟨F', g.trans g2, e2.perm ?_⟩
  rw [List.append_assoc, List.append_assoc]
  exact List.Perm.append_left _ List.perm_append_comm

/-! ### calls -/
/-- a call that comes back -/
theorem sp_ret {C : Ct} {ws : List W} {out : Out → Cells → Prop} {vs : List V} {E : XK} {Q : VK} {d : D} (e : En K B F0 ro (ka ++ kr) (vs.zip ws ++ ta) sg H) (hl : vs.length = ws.length) (hC : C ws ka out) (ho : ∀ o k, out o k → o = .ret d ∧ k = k2)
    (q : ∀ v H', En K B F0 ro (k2 ++ kr) ((v, .val d) :: ta) sg H' → Q v H') : spC K C vs H Q E := by
  obtain ⟨F, g, e⟩ := e
  refine ⟨off H ka, F, ws, ka, out, hC, hl, ⟨F, Gr.refl _ _, e.into (ro' := []) (sg' := []) (ta' := vs.zip ws) rfl (fun i w h => by simp at h) fun p hp => List.mem_append_left _ hp⟩, fun d' k v H' o ⟨F', g', e'⟩ => ?_, fun C fs k dx H' o _ => ?_, fun C k H' o _ => ?_⟩
  · obtain ⟨hd, rfl⟩ := ho _ _ o
    cases hd
    obtain ⟨g2, e2⟩ := e.back g' e' (tb := (v, .val d) :: ta) fun p hp => by
      rcases List.mem_cons.mp hp with rfl | hp
      · exact .inr ⟨d, rfl, List.mem_cons_self⟩
      · exact .inl (List.mem_append_right _ hp)
    exact q v H' ⟨F', g.trans g2, e2⟩
  · have := (ho _ _ o).1
    cases this
  · have := (ho _ _ o).1
    cases this
theorem ev_call {C : Ct} {ws : List W} {out : Out → Cells → Prop} {E : XK} {d : D} (ha : EvA K tr ro ka ws k1) (hC : C ws k1 out) (ho : ∀ o k, out o k → o = .ret d ∧ k = k2) : EvD K (tCall (spC K C) [] E tr) ro ka (.val d) k2 := fun B F0 ta sg H Q e q =>
  ha B F0 ta sg H _ e fun vs H1 hl e1 => by
    rw [List.append_nil]
    have e1' : En K B F0 ro (k1 ++ []) (vs.zip ws ++ ta) sg H1 := by rw [List.append_nil]; exact e1
    exact sp_ret e1' hl hC ho fun v H' e2 => q v H' (by rw [List.append_nil] at e2; exact e2)
/-- .. the cells that it works on ahead of others -/
theorem ev_callF {C : Ct} {ws : List W} {out : Out → Cells → Prop} {E : XK} {d : D} (kr : Cells) (ha : EvA K tr ro ka ws (k1 ++ kr)) (hC : C ws k1 out) (ho : ∀ o k, out o k → o = .ret d ∧ k = k2) : EvD K (tCall (spC K C) [] E tr) ro ka (.val d) (k2 ++ kr) := fun B F0 ta sg H Q e q =>
  ha B F0 ta sg H _ e fun vs H1 hl e1 => by
    rw [List.append_nil]
    exact sp_ret e1 hl hC ho q
/-! ### comprehensions -/
def wipeR (ro : Ro) : List Nat → Ro
  | [] => ro
  | v :: vs => (wipeR ro vs).set v none
theorem wipe_en : ∀ {vs : List Nat}, EnF K B F ro ka ta sg H → EnF K B F (wipeR ro vs) ka ta (wipe sg vs) H
  | [], e => e
  | v :: vs, e => by
    have e1 := wipe_en (vs := vs) e
    refine e1.frame (by show (List.set _ _ _).length = (List.set _ _ _).length; rw [List.length_set, List.length_set, e1.ln]) fun i w h => ?_
    show ∃ v', ((wipe sg vs).set v none)[i]? = some (some v') ∧ _
    have h' : ((wipeR ro vs).set v none)[i]? = some (some w) := h
    by_cases hi : v = i
    · subst hi
      have hlt : v < (wipeR ro vs).length := by
        have := (List.getElem?_eq_some_iff.mp h').1
        rwa [List.length_set] at this
      rw [List.getElem?_set_self hlt] at h'
      cases h'
    · rw [List.getElem?_set_ne hi] at h' ⊢
      exact e1.sl i w h'
theorem wipe_set (sg : L2.St) (vs : List Nat) {j : Nat} (hj : j ∈ vs) (v : V) : wipe ((wipe sg vs).set j (some v)) vs = wipe sg vs := by
  have key : ∀ (vs : List Nat) (s t : L2.St), s.length = t.length → (∀ i : Nat, i ∉ vs → s[i]? = t[i]?) → wipe s vs = wipe t vs := by
    intro vs
    induction vs with
    | nil =>
      intro s t hl h
      exact List.ext_getElem? fun i => h i (by simp)
    | cons a vs ih =>
      intro s t hl h
      show (wipe s vs).set a none = (wipe t vs).set a none
      apply List.ext_getElem?
      intro i
      by_cases hi : a = i
      · subst hi
        rw [List.getElem?_set, List.getElem?_set, wipe_length, wipe_length, hl, if_pos rfl, if_pos rfl]
      · rw [List.getElem?_set_ne hi, List.getElem?_set_ne hi]
        have gen : ∀ (vs : List Nat) (s t : L2.St), s.length = t.length → ∀ i : Nat, s[i]? = t[i]? → (wipe s vs)[i]? = (wipe t vs)[i]? := by
          intro vs
          induction vs with
          | nil => intro s t _ i h; exact h
          | cons b vs ih2 =>
            intro s t hl i h
            show ((wipe s vs).set b none)[i]? = ((wipe t vs).set b none)[i]?
            rw [List.getElem?_set, List.getElem?_set, wipe_length, wipe_length, hl, ih2 s t hl i h]
        by_cases hv : i ∈ vs
        · have wn : ∀ (vs : List Nat) (s : L2.St) (i : Nat), i ∈ vs → i < s.length → (wipe s vs)[i]? = some none := by
            intro vs
            induction vs with
            | nil => intro s i h; simp at h
            | cons b vs ih2 =>
              intro s i h hlt
              show ((wipe s vs).set b none)[i]? = some none
              by_cases hb : b = i
              · subst hb
                rw [List.getElem?_set_self (by rw [wipe_length]; exact hlt)]
              · rw [List.getElem?_set_ne hb]
                rcases List.mem_cons.mp h with q | q
                · exact absurd q.symm hb
                · exact ih2 s i q hlt
          by_cases hlt : i < s.length
          · rw [wn vs s i hv hlt, wn vs t i hv (hl ▸ hlt)]
          · rw [List.getElem?_eq_none (by rw [wipe_length]; omega), List.getElem?_eq_none (by rw [wipe_length]; omega)]
        · exact gen vs s t hl i (h i (by simp [Ne.symm hi, hv]))
  have idem : ∀ (vs : List Nat) (s : L2.St), wipe (wipe s vs) vs = wipe s vs := fun vs s => key vs _ _ (wipe_length _ _) fun i hi => by
    have gen : ∀ (us : List Nat) (s : L2.St), i ∉ us → (wipe s us)[i]? = s[i]? := by
      intro us
      induction us with
      | nil => intro s _; rfl
      | cons b us ih2 =>
        intro s h
        show ((wipe s us).set b none)[i]? = s[i]?
        rw [List.getElem?_set_ne (fun q => h (by simp [q])), ih2 s fun q => h (List.mem_cons_of_mem _ q)]
    exact gen vs s hi
  have e1 : wipe ((wipe sg vs).set j (some v)) vs = wipe (wipe sg vs) vs := key vs _ _ (by rw [List.length_set]) fun i hi => by
    have hne : j ≠ i := fun q => hi (q ▸ hj)
    exact List.getElem?_set_ne hne
  rw [e1, idem]
/-- a new cell of which R tells -/
def EvNR (K : PySem.W.Frag) (te : TE) (ro : Ro) (ka : Cells) (R : Nd → Cells → Prop) : Prop := ∀ B F0 ta sg H (Q : VK), En K B F0 ro ka ta sg H → (∀ n k a H', R n k → En K B F0 ro (k ++ [(a, n)]) ta sg H' → Q (.ref a) H') → te sg H Q
/-- [e for x in .. if ..]: what is told of the list -/
theorem evr_lc {wi : TI} {ws : List W} {C : Cells → Prop} {j : Nat} {vs : List Nat} (h : EvI K wi ro ka ws C k1) (hj : j ∈ vs) (hn : ws.length ≤ 1000000) (Inv : Nat → List D → Cells → Prop) (h0 : Inv 0 [] k1) (hC : ∀ i acc k, Inv i acc k → C k ∧ ∀ x, C (k ++ [x]))
    (hs : ∀ i w acc k, ws[i]? = some w → Inv i acc k → (∃ k2, EvT K tt ((wipeR ro vs).set j (some w)) k false k2 ∧ Inv (i + 1) acc k2) ∨ ∃ k2 k3 d, EvT K tt ((wipeR ro vs).set j (some w)) k true k2 ∧ EvD K te ((wipeR ro vs).set j (some w)) k2 (.val d) k3 ∧ Inv (i + 1) (acc ++ [d]) k3)
    : EvNR K (tLc wi (gName j) tt te vs) ro ka (fun n k => ∃ acc, n = .lst acc ∧ Inv ws.length acc k) := fun B F0 ta sg H Q e q =>
  h B F0 ta sg H _ e fun J ta' H1 hta e1 hgo hst => fun Dl hD => by
    -- the word: the list so far is the last cell
    let P : Nat → Hp → Prop := fun i H => ∃ acc k, Inv i acc k ∧ acc.length ≤ i ∧ En K B F0 ro (k ++ [(Dl, .lst acc)]) ta' sg H
    have p0 : P 0 (upd H1 Dl (.lst [])) := by
      obtain ⟨F, g, e1⟩ := e1
      exact ⟨[], k1, h0, Nat.le_refl _, F, g, e1.cell (o := .lst []) hD (n := .lst []) ⟨[], upd_same, rfl⟩⟩
    refine ⟨fun i m H => m = ws.length - i ∧ i ≤ ws.length ∧ P i H, ⟨ws.length, by simp, Nat.zero_le _, p0⟩, ?_⟩
    rintro i m H2 ⟨rfl, hi, acc, k, inv, hlen, e2⟩
    by_cases hlt : i < ws.length
    · have hw := List.getElem?_eq_getElem hlt
      obtain ⟨g1, g2⟩ := hgo i ws[i] ro (k ++ [(Dl, .lst acc)]) ta' sg H2 hw ((hC i acc k inv).2 _) (fun p hp => hp) e2
      refine .inr ⟨g1, P (i + 1), fun H' p => ⟨ws.length - (i + 1), by omega, rfl, hlt, p⟩, fun x H3 y => ?_⟩
      have e3 := g2 x H3 y
      refine ⟨wipe_set sg vs hj x, ?_⟩
      -- within the block
      have e4 : En K B F0 ((wipeR ro vs).set j (some ws[i])) (k ++ [(Dl, .lst acc)]) ta' ((wipe sg vs).set j (some x)) H3 := by
        obtain ⟨F, g, e3⟩ := e3
        exact ⟨F, g, ((wipe_en (vs := vs) e3).set (e3.tm _ List.mem_cons_self) j).held fun p hp => List.mem_cons_of_mem _ hp⟩
      -- and back out of it
      have out : ∀ {k : Cells} {ta2 : List (V × W)} {H : Hp}, (∃ F, Gr B F0 F ∧ EnF K B F ((wipeR ro vs).set j (some ws[i])) k ta2 ((wipe sg vs).set j (some x)) H ∧ ∀ (a : Nat) w, ro[a]? = some (some w) → ∃ v, sg[a]? = some (some v) ∧ WOk K B F v w) → En K B F0 ro k ta2 sg H := fun ⟨F, g, q, hs⟩ => ⟨F, g, q.frame (by obtain ⟨_, _, e0⟩ := e; exact e0.ln) hs⟩
      obtain ⟨F3, gF3, eF3⟩ := e3
      have slots : ∀ {F : Hp}, Gr B F3 F → ∀ (a : Nat) w, ro[a]? = some (some w) → ∃ v, sg[a]? = some (some v) ∧ WOk K B F v w := fun {F} g a w ha => by
        obtain ⟨v, h1, h2⟩ := eF3.sl a w ha
        exact ⟨v, h1, wok_gr eF3.nz g h2⟩
      have e4' : En K B F3 ((wipeR ro vs).set j (some ws[i])) (k ++ [(Dl, .lst acc)]) ta' ((wipe sg vs).set j (some x)) H3 :=
        ⟨F3, Gr.refl _ _, ((wipe_en (vs := vs) eF3).set (eF3.tm _ List.mem_cons_self) j).held fun p hp => List.mem_cons_of_mem _ hp⟩
      rcases hs i ws[i] acc k hw inv with ⟨k2, t1, inv2⟩ | ⟨k2, k3, d, t1, t2, inv2⟩
      · refine t1.fr [(Dl, .lst acc)] B F3 ta' _ H3 _ e4' fun H4 ⟨F4, g4, e5⟩ => ?_
        exact ⟨acc, k2, inv2, Nat.le_succ_of_le hlen, out ⟨F4, gF3.trans g4, e5, slots g4⟩⟩
      · refine t1.fr [(Dl, .lst acc)] B F3 ta' _ H3 _ e4' fun H4 e5 => ?_
        refine t2.fr [(Dl, .lst acc)] B F3 ta' _ H4 _ e5 fun v H5 ⟨F5, g5, e6⟩ => ?_
        have hx : (k3 ++ [(Dl, Nd.lst acc)])[k3.length]? = some (Dl, Nd.lst acc) := by simp
        obtain ⟨xs, h1, h2⟩ := e6.rd_lst hx
        have hv := e6.tm _ List.mem_cons_self
        have e7 := e6.write (o := .lst (xs ++ [v])) (n' := .lst (acc ++ [d])) hx ⟨_, upd_same, rpl_app h2 ⟨v, [], rfl, hv, rfl⟩⟩
        have hset : (k3 ++ [(Dl, Nd.lst acc)]).set k3.length (Dl, Nd.lst (acc ++ [d])) = k3 ++ [(Dl, Nd.lst (acc ++ [d]))] := by
          rw [List.set_append_right _ _ (Nat.le_refl _)]
          simp
        rw [hset] at e7
        refine ⟨xs, h1, by rw [rpl_len h2]; exact Nat.lt_of_le_of_lt (Nat.le_trans hlen (Nat.le_trans hi hn)) (by decide), acc ++ [d], k3, inv2, by rw [List.length_append]; exact Nat.succ_le_succ hlen, ?_⟩
        exact out ⟨F5, gF3.trans g5, e7.held fun p hp => List.mem_cons_of_mem _ hp, slots g5⟩
    · have ei : i = ws.length := by omega
      subst ei
      refine .inl ⟨hst _ ro (k ++ [(Dl, .lst acc)]) ta' sg H2 (Nat.le_refl _) ((hC _ acc k inv).2 _) (fun p hp => hp) e2, ?_⟩
      exact q _ _ Dl H2 ⟨acc, rfl, inv⟩ (e2.held hta)
/-- [e for x in .. if ..] -/
theorem evn_lc {wi : TI} {ws : List W} {C : Cells → Prop} {j : Nat} {vs : List Nat} (h : EvI K wi ro ka ws C k1) (hj : j ∈ vs) (hn : ws.length ≤ 1000000) (Inv : Nat → List D → Cells → Prop) (h0 : Inv 0 [] k1) (hC : ∀ i acc k, Inv i acc k → C k ∧ ∀ x, C (k ++ [x]))
    (hs : ∀ i w acc k, ws[i]? = some w → Inv i acc k → (∃ k2, EvT K tt ((wipeR ro vs).set j (some w)) k false k2 ∧ Inv (i + 1) acc k2) ∨ ∃ k2 k3 d, EvT K tt ((wipeR ro vs).set j (some w)) k true k2 ∧ EvD K te ((wipeR ro vs).set j (some w)) k2 (.val d) k3 ∧ Inv (i + 1) (acc ++ [d]) k3)
    {ds : List D} {kz : Cells} (hd : ∀ acc k, Inv ws.length acc k → acc = ds ∧ k = kz) : EvN K (tLc wi (gName j) tt te vs) ro ka (.lst ds) kz := fun B F0 ta sg H Q e q => evr_lc h hj hn Inv h0 hC hs B F0 ta sg H Q e fun n k a H' ⟨acc, hn', inv⟩ e' => by
  subst hn'
  obtain ⟨rfl, rfl⟩ := hd acc k inv
  exact q a H' e'
end
end DL

/-! DE: equality of data (own work). -/
namespace DL
open PySem L2 PySem.SeqAt

mutual
def eqD : D → D → Bool
  | .non, .non => true
  | .bl a, .bl b => a == b
  | .bl a, .int j => (if a then 1 else 0) == j
  | .int i, .bl b => i == (if b then 1 else 0)
  | .int i, .int j => i == j
  | .str x, .str y => x == y
  | .lst xs, .lst ys => eqL xs ys
  | .tup xs, .tup ys => eqL xs ys
  | _, _ => false
def eqL : List D → List D → Bool
  | [], [] => true
  | x :: xs, y :: ys => eqD x y && eqL xs ys
  | _, _ => false
end
/-- plain data: numbers, texts, lists and tuples of these, at most n deep -/
def pl : Nat → D → Bool
  | _, .non => true
  | _, .bl _ => true
  | _, .int _ => true
  | _, .str _ => true
  | n + 1, .lst ds => ds.all (pl n)
  | n + 1, .tup ds => ds.all (pl n)
  | _, _ => false
theorem eqL_len : ∀ {xs ys : List D}, eqL xs ys = true → xs.length = ys.length
  | [], [], _ => rfl
  | [], _ :: _, h => by cases h
  | _ :: _, [], h => by cases h
  | x :: xs, y :: ys, h => by
    have h2 := (Bool.and_eq_true_iff.mp (show (eqD x y && eqL xs ys) = true from h)).2
    rw [List.length_cons, List.length_cons, eqL_len h2]
theorem eqL_ne {xs ys : List D} (h : xs.length ≠ ys.length) : eqL xs ys = false := by
  cases q : eqL xs ys with
  | false => rfl
  | true => exact absurd (eqL_len q) h
/-- equal item by item -/
theorem eqL_all : ∀ (xs ys : List D), xs.length = ys.length → eqL xs ys = (List.range xs.length).all fun j => eqD (xs.getD j .non) (ys.getD j .non)
  | [], [], _ => rfl
  | [], _ :: _, h => by cases h
  | _ :: _, [], h => by cases h
  | x :: xs, y :: ys, h => by
    have ih := eqL_all xs ys (by simpa using h)
    show (eqD x y && eqL xs ys) = _
    rw [ih, List.length_cons, List.range_succ_eq_map, List.all_cons, List.all_map]
    rfl
theorem eqD_refl (n : Nat) : ∀ (d : D), pl n d = true → eqD d d = true := by
  induction n with
  | zero =>
    intro d h
    cases d <;> first | rfl | exact beq_self_eq_true _ | cases h
  | succ n ih =>
    have hl : ∀ ds : List D, ds.all (pl n) = true → eqL ds ds = true := by
      intro ds
      induction ds with
      | nil => intro _; rfl
      | cons d ds ih2 =>
        intro h
        rw [List.all_cons] at h
        obtain ⟨h1, h2⟩ := Bool.and_eq_true_iff.mp h
        show (eqD d d && eqL ds ds) = true
        rw [ih d h1, ih2 h2] <;> rfl
    intro d h
    cases d with
    | lst ds => exact hl ds h
    | tup ds => exact hl ds h
    | _ => first | rfl | exact beq_self_eq_true _ | cases h
section
variable {X : Cx} {pins : List (Addr × Obj)} {sg : L2.St} {H G : Hp} {s : Shared}
/-- the same value, two readings: equal -/
theorem eqD_same (I : Inv X pins sg H s) (fz : Exz G H) (nz : Nz G) (n : Nat) : ∀ (d e : D) (v : V), pl n d = true → pl n e = true → Rp X.K G d v → Rp X.K G e v → eqD d e = true := by
  induction n with
  | zero =>
    intro d e v h1 h2 r1 r2
    cases d <;> first | (exact absurd h1 Bool.false_ne_true) | skip
    all_goals cases e <;> first | (exact absurd h2 Bool.false_ne_true) | skip
    all_goals (have q := Eq.trans (Eq.symm (show v = _ from r1)) (show v = _ from r2); first | rfl | (cases q <;> first | rfl | exact beq_self_eq_true _))
  | succ n ih =>
    have hl : ∀ (ds es : List D) (xs : List V), ds.all (pl n) = true → es.all (pl n) = true → RpL X.K G ds xs → RpL X.K G es xs → eqL ds es = true := by
      intro ds
      induction ds with
      | nil =>
        intro es xs _ _ r1 r2
        cases es with
        | nil => rfl
        | cons e es =>
          obtain ⟨x, ys, hx, _⟩ := r2
          rw [show xs = [] from r1] at hx
          cases hx
      | cons d ds ih2 =>
        intro es xs h1 h2 r1 r2
        obtain ⟨x, ys, rfl, a1, a2⟩ := r1
        cases es with
        | nil => cases (show x :: ys = [] from r2)
        | cons e es =>
          obtain ⟨x', ys', hx, b1, b2⟩ := r2
          cases hx
          rw [List.all_cons] at h1 h2
          obtain ⟨c1, c2⟩ := Bool.and_eq_true_iff.mp h1
          obtain ⟨e1, e2⟩ := Bool.and_eq_true_iff.mp h2
          show (eqD d e && eqL ds es) = true
          rw [ih d e x c1 e1 a1 b1, ih2 es ys c2 e2 a2 b2] <;> rfl
    intro d e v h1 h2 r1 r2
    cases d <;> first | (exact absurd h1 Bool.false_ne_true) | skip
    all_goals cases e <;> first | (exact absurd h2 Bool.false_ne_true) | skip
    case tup.tup ds es =>
      obtain ⟨a, xs, rfl, q1, q2⟩ := r1
      obtain ⟨a', ys, e', p1, p2⟩ := r2
      cases e'
      have hxy := I.tuple_inj (sqT_mono fz nz q1) (sqT_mono fz nz p1)
      subst hxy
      exact hl ds es xs h1 h2 q2 p2
    case lst.lst ds es =>
      obtain ⟨a, xs, rfl, q1, q2⟩ := r1
      obtain ⟨a', ys, e', p1, p2⟩ := r2
      cases e'
      have hxy := I.list_inj (.inl (fz.rd nz q1)) (.inl (fz.rd nz p1))
      subst hxy
      exact hl ds es xs h1 h2 q2 p2
    case tup.lst ds es =>
      obtain ⟨a, xs, rfl, q1, q2⟩ := r1
      obtain ⟨a', ys, e', p1, p2⟩ := r2
      cases e'
      obtain ⟨its, _, t1, _⟩ := I.tuple (sqT_mono fz nz q1)
      obtain ⟨its2, _, t2, _⟩ := I.list (.inl (fz.rd nz p1))
      exact absurd rfl (ne_of_list_tuple t2.isList t1)
    case lst.tup ds es =>
      obtain ⟨a, xs, rfl, q1, q2⟩ := r1
      obtain ⟨a', ys, e', p1, p2⟩ := r2
      cases e'
      obtain ⟨its, _, t1, _⟩ := I.tuple (sqT_mono fz nz p1)
      obtain ⟨its2, _, t2, _⟩ := I.list (.inl (fz.rd nz q1))
      exact absurd rfl (ne_of_list_tuple t2.isList t1)
    all_goals first
      | (obtain ⟨a, xs, rfl, _⟩ := r1; cases (show V.ref a = _ from r2))
      | (obtain ⟨a, xs, rfl, _⟩ := r2; cases (show V.ref a = _ from r1))
      | (have q := Eq.trans (Eq.symm (show v = _ from r1)) (show v = _ from r2); first | rfl | (cases q <;> first | rfl | exact beq_self_eq_true _))
/-- the items' equality, by place -/
theorem items_eq {n : Nat} {A : Around} (ih : ∀ (d e : D) (A : Around) (v w : V) (u u' : Value), pl n d = true → pl n e = true → Rp X.K G d v → Rp X.K G e w → RelV v u → RelV w u' → A.units + n < cLine → EqAt A s u u' (eqD d e))
    {ds es : List D} {xs ys : List V} {its its2 : List Value} (h1 : ds.all (pl n) = true) (h2 : es.all (pl n) = true) (r1 : RpL X.K G ds xs) (r2 : RpL X.K G es ys) (q1 : Vals xs its) (q2 : Vals ys its2) (hu : A.units + (n + 1) < cLine) :
    ∀ j (l1 : j < its.toArray.size) (l2 : j < its2.toArray.size), EqAt A.in1 s its.toArray[j] its2.toArray[j] (eqD (ds.getD j .non) (es.getD j .non)) := fun j l1 l2 => by
  have k1 : j < its.length := by simpa using l1
  have k2 : j < its2.length := by simpa using l2
  have m1 : j < ds.length := by rw [← rpl_len r1, q1.length]; exact k1
  have m2 : j < es.length := by rw [← rpl_len r2, q2.length]; exact k2
  obtain ⟨v, hv, rv⟩ := rpl_get r1 (List.getElem?_eq_getElem m1)
  obtain ⟨w, hw, rw2⟩ := rpl_get r2 (List.getElem?_eq_getElem m2)
  obtain ⟨u, hu1, ru⟩ := q1.get hv
  obtain ⟨u', hu2, ru'⟩ := q2.get hw
  have e1 : its.toArray[j] = u := by
    rw [List.getElem?_eq_getElem k1] at hu1
    simpa using hu1
  have e2 : its2.toArray[j] = u' := by
    rw [List.getElem?_eq_getElem k2] at hu2
    simpa using hu2
  have g1 : ds.getD j .non = ds[j] := by simp [List.getD, List.getElem?_eq_getElem m1]
  have g2 : es.getD j .non = es[j] := by simp [List.getD, List.getElem?_eq_getElem m2]
  rw [e1, e2, g1, g2]
  exact ih _ _ A.in1 v w u u' (List.all_eq_true.mp h1 _ (List.getElem_mem m1)) (List.all_eq_true.mp h2 _ (List.getElem_mem m2)) rv rw2 ru ru' (by show A.units + 1 + n < cLine; omega)
theorem list_flat {A : Around} {a : Addr} {its : Array Value} (h : s.heap.IsList a its) (hu : A.units < cLine) : ∀ {w : V} {u : Value}, RelV w u → flatV w = true → EqAt A s (.ref a) u false ∧ EqAt A s u (.ref a) false
  | .non, u, r, _ => by
    cases r
    exact ⟨EqAt.list_none h hu, EqAt.none_list h hu⟩
  | .bl b, u, r, _ => by
    cases r
    exact ⟨EqAt.list_bool b h hu, EqAt.bool_list b h hu⟩
  | .int i, u, r, _ => by
    obtain ⟨t, rfl⟩ := r
    exact ⟨EqAt.list_int i t h hu, EqAt.int_list i t h hu⟩
  | .str z, u, r, _ => by
    obtain ⟨t, rfl⟩ := r
    exact ⟨EqAt.list_str z t h hu, EqAt.str_list z t h hu⟩
  | .byt _, _, _, f => absurd f Bool.false_ne_true
  | .flt _, _, _, f => absurd f Bool.false_ne_true
  | .ref _, _, _, f => absurd f Bool.false_ne_true
  | .ty _, _, _, f => absurd f Bool.false_ne_true
theorem tup_flat {A : Around} {a : Addr} {its : Array Value} (h : s.heap.IsTuple a its) (hu : A.units < cLine) : ∀ {w : V} {u : Value}, RelV w u → flatV w = true → EqAt A s (.ref a) u false ∧ EqAt A s u (.ref a) false
  | .non, u, r, _ => by
    cases r
    exact ⟨EqAt.tuple_none h hu, EqAt.none_tuple h hu⟩
  | .bl b, u, r, _ => by
    cases r
    exact ⟨EqAt.tuple_bool b h hu, EqAt.bool_tuple b h hu⟩
  | .int i, u, r, _ => by
    obtain ⟨t, rfl⟩ := r
    exact ⟨EqAt.tuple_int i t h hu, EqAt.int_tuple i t h hu⟩
  | .str z, u, r, _ => by
    obtain ⟨t, rfl⟩ := r
    exact ⟨EqAt.tuple_str z t h hu, EqAt.str_tuple z t h hu⟩
  | .byt _, _, _, f => absurd f Bool.false_ne_true
  | .flt _, _, _, f => absurd f Bool.false_ne_true
  | .ref _, _, _, f => absurd f Bool.false_ne_true
  | .ty _, _, _, f => absurd f Bool.false_ne_true
/-- flat data -/
def fl : D → Bool
  | .non => true
  | .bl _ => true
  | .int _ => true
  | .str _ => true
  | _ => false
theorem fl_v : ∀ {d : D} {v : V}, fl d = true → Rp X.K G d v → flatV v = true
  | .non, v, _, h => by rw [show v = _ from h]; rfl
  | .bl _, v, _, h => by rw [show v = _ from h]; rfl
  | .int _, v, _, h => by rw [show v = _ from h]; rfl
  | .str _, v, _, h => by rw [show v = _ from h]; rfl
theorem fl_eq : ∀ {d e : D} {v w : V}, fl d = true → fl e = true → Rp X.K G d v → Rp X.K G e w → eqV v w = eqD d e := by
  intro d e v w h1 h2 r1 r2
  cases d <;> first | (exact absurd h1 Bool.false_ne_true) | skip
  all_goals cases e <;> first | (exact absurd h2 Bool.false_ne_true) | skip
  all_goals (have z1 := (show v = _ from r1); have z2 := (show w = _ from r2); subst z1 z2; rfl)
theorem eqAt_D (I : Inv X pins sg H s) (fz : Exz G H) (nz : Nz G) (n : Nat) : ∀ (d e : D) (A : Around) (v w : V) (u u' : Value), pl n d = true → pl n e = true → Rp X.K G d v → Rp X.K G e w → RelV v u → RelV w u' → A.units + n < cLine → EqAt A s u u' (eqD d e) := by
  have flat : ∀ (A : Around) (d e : D) (v w : V) (u u' : Value), RelV v u → RelV w u' → flatV v = true → flatV w = true → eqV v w = eqD d e → EqAt A s u u' (eqD d e) := fun A d e v w u u' r1 r2 f1 f2 q => q ▸ eqAt_V r1 r2 f1 f2
  induction n with
  | zero =>
    intro d e A v w u u' h1 h2 r1 r2 q1 q2 hu
    cases d <;> first | (exact absurd h1 Bool.false_ne_true) | skip
    all_goals cases e <;> first | (exact absurd h2 Bool.false_ne_true) | skip
    all_goals (have z1 := (show v = _ from r1); have z2 := (show w = _ from r2); subst z1 z2; exact flat A _ _ _ _ _ _ q1 q2 rfl rfl rfl)
  | succ n ih =>
    intro d e A v w u u' h1 h2 r1 r2 q1 q2 hu
    have hu0 : A.units < cLine := by omega
    have lstf : ∀ {ds : List D} {e : D}, Rp X.K G (.lst ds) v → fl e = true → Rp X.K G e w → RelV v u → RelV w u' → EqAt A s u u' false := fun {ds e} r1 f r2 q1 q2 => by
      obtain ⟨a, xs, rfl, a1, a2⟩ := r1
      cases q1
      obtain ⟨its, t1, t2, _⟩ := I.list (.inl (fz.rd nz a1))
      exact (list_flat t2.isList hu0 q2 (fl_v f r2)).1
    have tupf : ∀ {ds : List D} {e : D}, Rp X.K G (.tup ds) v → fl e = true → Rp X.K G e w → RelV v u → RelV w u' → EqAt A s u u' false := fun {ds e} r1 f r2 q1 q2 => by
      obtain ⟨a, xs, rfl, a1, a2⟩ := r1
      cases q1
      obtain ⟨its, t1, t2, _⟩ := I.tuple (sqT_mono fz nz a1)
      exact (tup_flat t2 hu0 q2 (fl_v f r2)).1
    have flst : ∀ {ds : List D} {e : D}, Rp X.K G e v → fl e = true → Rp X.K G (.lst ds) w → RelV v u → RelV w u' → EqAt A s u u' false := fun {ds e} r1 f r2 q1 q2 => by
      obtain ⟨a, xs, rfl, a1, a2⟩ := r2
      cases q2
      obtain ⟨its, t1, t2, _⟩ := I.list (.inl (fz.rd nz a1))
      exact (list_flat t2.isList hu0 q1 (fl_v f r1)).2
    have ftup : ∀ {ds : List D} {e : D}, Rp X.K G e v → fl e = true → Rp X.K G (.tup ds) w → RelV v u → RelV w u' → EqAt A s u u' false := fun {ds e} r1 f r2 q1 q2 => by
      obtain ⟨a, xs, rfl, a1, a2⟩ := r2
      cases q2
      obtain ⟨its, t1, t2, _⟩ := I.tuple (sqT_mono fz nz a1)
      exact (tup_flat t2 hu0 q1 (fl_v f r1)).2
    cases d <;> first | (exact absurd h1 Bool.false_ne_true) | skip
    all_goals cases e <;> first | (exact absurd h2 Bool.false_ne_true) | skip
    case lst.lst ds es =>
      by_cases hab : v = w
      · subst hab
        have hue : u = u' := by
          obtain ⟨a, xs, rfl, _⟩ := r1
          rw [show u = Value.ref a from q1, show u' = Value.ref a from q2]
        subst hue
        rw [eqD_same I fz nz (n + 1) _ _ v h1 h2 r1 r2]
        exact EqAt.same _
      · obtain ⟨a, xs, rfl, a1, a2⟩ := r1
        obtain ⟨b, ys, rfl, b1, b2⟩ := r2
        cases q1
        cases q2
        obtain ⟨its, t1, t2, _⟩ := I.list (.inl (fz.rd nz a1))
        obtain ⟨its2, t3, t4, _⟩ := I.list (.inl (fz.rd nz b1))
        have l1 : its.toArray.size = ds.length := by rw [List.size_toArray, ← t1.length, rpl_len a2]
        have l2 : its2.toArray.size = es.length := by rw [List.size_toArray, ← t3.length, rpl_len b2]
        show EqAt A s _ _ (eqL ds es)
        by_cases hl : ds.length = es.length
        · rw [eqL_all ds es hl, ← l1]
          exact EqAt.of_refs (fun z => hab (by rw [z])) (RcAt.lists t2.isList t4.isList (by omega) hu0 (items_eq ih h1 h2 a2 b2 t1 t3 hu))
        · rw [eqL_ne hl]
          exact EqAt.of_refs (fun z => hab (by rw [z])) (RcAt.lists_lengths t2.isList t4.isList (by simp only [bne_iff_ne]; omega) hu0)
    case tup.tup ds es =>
      by_cases hab : v = w
      · subst hab
        have hue : u = u' := by
          obtain ⟨a, xs, rfl, _⟩ := r1
          rw [show u = Value.ref a from q1, show u' = Value.ref a from q2]
        subst hue
        rw [eqD_same I fz nz (n + 1) _ _ v h1 h2 r1 r2]
        exact EqAt.same _
      · obtain ⟨a, xs, rfl, a1, a2⟩ := r1
        obtain ⟨b, ys, rfl, b1, b2⟩ := r2
        cases q1
        cases q2
        obtain ⟨its, t1, t2, _⟩ := I.tuple (sqT_mono fz nz a1)
        obtain ⟨its2, t3, t4, _⟩ := I.tuple (sqT_mono fz nz b1)
        have l1 : its.toArray.size = ds.length := by rw [List.size_toArray, ← t1.length, rpl_len a2]
        have l2 : its2.toArray.size = es.length := by rw [List.size_toArray, ← t3.length, rpl_len b2]
        have main := RcAt.tuples t2 t4 hu0 (items_eq ih h1 h2 a2 b2 t1 t3 hu)
        have key : ((List.range (min its.toArray.size its2.toArray.size)).all (fun j => eqD (ds.getD j .non) (es.getD j .non)) && its.toArray.size == its2.toArray.size) = eqL ds es := by
          by_cases hl : ds.length = es.length
          · rw [eqL_all ds es hl, l1, l2, hl]
            simp
          · rw [eqL_ne hl, l1, l2]
            simp [hl]
        rw [key] at main
        exact EqAt.of_refs (fun z => hab (by rw [z])) main
    case lst.tup ds es =>
      obtain ⟨a, xs, rfl, a1, a2⟩ := r1
      obtain ⟨b, ys, rfl, b1, b2⟩ := r2
      cases q1
      cases q2
      obtain ⟨its, t1, t2, _⟩ := I.list (.inl (fz.rd nz a1))
      obtain ⟨its2, t3, t4, _⟩ := I.tuple (sqT_mono fz nz b1)
      exact EqAt.list_tuple t2.isList t4 hu0
    case tup.lst ds es =>
      obtain ⟨a, xs, rfl, a1, a2⟩ := r1
      obtain ⟨b, ys, rfl, b1, b2⟩ := r2
      cases q1
      cases q2
      obtain ⟨its, t1, t2, _⟩ := I.tuple (sqT_mono fz nz a1)
      obtain ⟨its2, t3, t4, _⟩ := I.list (.inl (fz.rd nz b1))
      exact EqAt.tuple_list t2 t4.isList hu0
    case lst.non => exact lstf r1 rfl r2 q1 q2
    case lst.bl => exact lstf r1 rfl r2 q1 q2
    case lst.int => exact lstf r1 rfl r2 q1 q2
    case lst.str => exact lstf r1 rfl r2 q1 q2
    case tup.non => exact tupf r1 rfl r2 q1 q2
    case tup.bl => exact tupf r1 rfl r2 q1 q2
    case tup.int => exact tupf r1 rfl r2 q1 q2
    case tup.str => exact tupf r1 rfl r2 q1 q2
    case non.lst => exact flst r1 rfl r2 q1 q2
    case bl.lst => exact flst r1 rfl r2 q1 q2
    case int.lst => exact flst r1 rfl r2 q1 q2
    case str.lst => exact flst r1 rfl r2 q1 q2
    case non.tup => exact ftup r1 rfl r2 q1 q2
    case bl.tup => exact ftup r1 rfl r2 q1 q2
    case int.tup => exact ftup r1 rfl r2 q1 q2
    case str.tup => exact ftup r1 rfl r2 q1 q2
    all_goals (have z1 := (show v = _ from r1); have z2 := (show w = _ from r2); subst z1 z2; exact flat A _ _ _ _ _ _ q1 q2 rfl rfl rfl)
end
end DL

/-! DQ: == and != of data, at the top (printed by gen_eq.py, own work). -/
namespace DL
open PySem L2 PySem.SeqAt
section
variable {X : Cx} {pins : List (Addr × Obj)} {sg : L2.St} {H G : Hp} {s : Shared}

theorem rc_flat {A : Around} : ∀ {v w : V} {u u' : Value}, RelV v u → RelV w u' → flatV v = true → flatV w = true → RcAt A s u u' (eqV v w)
  | .non, .non, u, u', r1, r2, _, _ => by
    cases r1
    cases r2
    exact RcAt.none_none
  | .non, .bl b2, u, u', r1, r2, _, _ => by
    cases r1
    cases r2
    exact RcAt.none_bool b2
  | .non, .int i2, u, u', r1, r2, _, _ => by
    cases r1
    obtain ⟨t2, rfl⟩ := r2
    exact RcAt.none_int i2 t2
  | .non, .str z2, u, u', r1, r2, _, _ => by
    cases r1
    obtain ⟨t2, rfl⟩ := r2
    exact RcAt.none_str z2 t2
  | .bl b1, .non, u, u', r1, r2, _, _ => by
    cases r1
    cases r2
    exact RcAt.bool_none b1
  | .bl b1, .bl b2, u, u', r1, r2, _, _ => by
    cases r1
    cases r2
    exact RcAt.bool_bool b1 b2
  | .bl b1, .int i2, u, u', r1, r2, _, _ => by
    cases r1
    obtain ⟨t2, rfl⟩ := r2
    exact RcAt.bool_int b1 i2 t2
  | .bl b1, .str z2, u, u', r1, r2, _, _ => by
    cases r1
    obtain ⟨t2, rfl⟩ := r2
    exact RcAt.bool_str b1 z2 t2
  | .int i1, .non, u, u', r1, r2, _, _ => by
    obtain ⟨t1, rfl⟩ := r1
    cases r2
    exact RcAt.int_none i1 t1
  | .int i1, .bl b2, u, u', r1, r2, _, _ => by
    obtain ⟨t1, rfl⟩ := r1
    cases r2
    exact RcAt.int_bool i1 t1 b2
  | .int i1, .int i2, u, u', r1, r2, _, _ => by
    obtain ⟨t1, rfl⟩ := r1
    obtain ⟨t2, rfl⟩ := r2
    exact RcAt.int_int i1 t1 i2 t2
  | .int i1, .str z2, u, u', r1, r2, _, _ => by
    obtain ⟨t1, rfl⟩ := r1
    obtain ⟨t2, rfl⟩ := r2
    exact RcAt.int_str i1 t1 z2 t2
  | .str z1, .non, u, u', r1, r2, _, _ => by
    obtain ⟨t1, rfl⟩ := r1
    cases r2
    exact RcAt.str_none z1 t1
  | .str z1, .bl b2, u, u', r1, r2, _, _ => by
    obtain ⟨t1, rfl⟩ := r1
    cases r2
    exact RcAt.str_bool z1 t1 b2
  | .str z1, .int i2, u, u', r1, r2, _, _ => by
    obtain ⟨t1, rfl⟩ := r1
    obtain ⟨t2, rfl⟩ := r2
    exact RcAt.str_int z1 t1 i2 t2
  | .str z1, .str z2, u, u', r1, r2, _, _ => by
    obtain ⟨t1, rfl⟩ := r1
    obtain ⟨t2, rfl⟩ := r2
    exact RcAt.str_str z1 t1 z2 t2
  | .byt _, _, _, _, _, _, f, _ => absurd f Bool.false_ne_true
  | .flt _, _, _, _, _, _, f, _ => absurd f Bool.false_ne_true
  | .ref _, _, _, _, _, _, f, _ => absurd f Bool.false_ne_true
  | .ty _, _, _, _, _, _, f, _ => absurd f Bool.false_ne_true
  | .non, .byt _, _, _, _, _, _, f => absurd f Bool.false_ne_true
  | .bl _, .byt _, _, _, _, _, _, f => absurd f Bool.false_ne_true
  | .int _, .byt _, _, _, _, _, _, f => absurd f Bool.false_ne_true
  | .str _, .byt _, _, _, _, _, _, f => absurd f Bool.false_ne_true
  | .non, .flt _, _, _, _, _, _, f => absurd f Bool.false_ne_true
  | .bl _, .flt _, _, _, _, _, _, f => absurd f Bool.false_ne_true
  | .int _, .flt _, _, _, _, _, _, f => absurd f Bool.false_ne_true
  | .str _, .flt _, _, _, _, _, _, f => absurd f Bool.false_ne_true
  | .non, .ref _, _, _, _, _, _, f => absurd f Bool.false_ne_true
  | .bl _, .ref _, _, _, _, _, _, f => absurd f Bool.false_ne_true
  | .int _, .ref _, _, _, _, _, _, f => absurd f Bool.false_ne_true
  | .str _, .ref _, _, _, _, _, _, f => absurd f Bool.false_ne_true
  | .non, .ty _, _, _, _, _, _, f => absurd f Bool.false_ne_true
  | .bl _, .ty _, _, _, _, _, _, f => absurd f Bool.false_ne_true
  | .int _, .ty _, _, _, _, _, _, f => absurd f Bool.false_ne_true
  | .str _, .ty _, _, _, _, _, _, f => absurd f Bool.false_ne_true
theorem rc_list {A : Around} {a : Addr} {its : Array Value} (h : s.heap.IsList a its) (hu : A.units < cLine) : ∀ {w : V} {u : Value}, RelV w u → flatV w = true → RcAt A s (.ref a) u false ∧ RcAt A s u (.ref a) false
  | .non, u, r, _ => by
    cases r
    exact ⟨RcAt.list_none h hu, RcAt.none_list h hu⟩
  | .bl b2, u, r, _ => by
    cases r
    exact ⟨RcAt.list_bool b2 h hu, RcAt.bool_list b2 h hu⟩
  | .int i2, u, r, _ => by
    obtain ⟨t2, rfl⟩ := r
    exact ⟨RcAt.list_int i2 t2 h hu, RcAt.int_list i2 t2 h hu⟩
  | .str z2, u, r, _ => by
    obtain ⟨t2, rfl⟩ := r
    exact ⟨RcAt.list_str z2 t2 h hu, RcAt.str_list z2 t2 h hu⟩
  | .byt _, _, _, f => absurd f Bool.false_ne_true
  | .flt _, _, _, f => absurd f Bool.false_ne_true
  | .ref _, _, _, f => absurd f Bool.false_ne_true
  | .ty _, _, _, f => absurd f Bool.false_ne_true
theorem rc_tuple {A : Around} {a : Addr} {its : Array Value} (h : s.heap.IsTuple a its) (hu : A.units < cLine) : ∀ {w : V} {u : Value}, RelV w u → flatV w = true → RcAt A s (.ref a) u false ∧ RcAt A s u (.ref a) false
  | .non, u, r, _ => by
    cases r
    exact ⟨RcAt.tuple_none h hu, RcAt.none_tuple h hu⟩
  | .bl b2, u, r, _ => by
    cases r
    exact ⟨RcAt.tuple_bool b2 h hu, RcAt.bool_tuple b2 h hu⟩
  | .int i2, u, r, _ => by
    obtain ⟨t2, rfl⟩ := r
    exact ⟨RcAt.tuple_int i2 t2 h hu, RcAt.int_tuple i2 t2 h hu⟩
  | .str z2, u, r, _ => by
    obtain ⟨t2, rfl⟩ := r
    exact ⟨RcAt.tuple_str z2 t2 h hu, RcAt.str_tuple z2 t2 h hu⟩
  | .byt _, _, _, f => absurd f Bool.false_ne_true
  | .flt _, _, _, f => absurd f Bool.false_ne_true
  | .ref _, _, _, f => absurd f Bool.false_ne_true
  | .ty _, _, _, f => absurd f Bool.false_ne_true
theorem rc_D (I : Inv X pins sg H s) (fz : Exz G H) (nz : Nz G) (n : Nat) (d e : D) (A : Around) (v w : V) (u u' : Value) (h1 : pl (n + 1) d = true) (h2 : pl (n + 1) e = true) (r1 : Rp X.K G d v) (r2 : Rp X.K G e w) (q1 : RelV v u) (q2 : RelV w u') (hu : A.units + (n + 1) < cLine) : RcAt A s u u' (eqD d e) := by
  have hu0 : A.units < cLine := by omega
  have ih := eqAt_D (X := X) I fz nz n
  have lstf : ∀ {ds : List D} {e : D}, Rp X.K G (.lst ds) v → fl e = true → Rp X.K G e w → RcAt A s u u' false := fun {ds e} r1 f r2 => by
    obtain ⟨a, xs, rfl, a1, a2⟩ := r1
    cases q1
    obtain ⟨its, t1, t2, _⟩ := I.list (.inl (fz.rd nz a1))
    exact (rc_list t2.isList hu0 q2 (fl_v f r2)).1
  have tupf : ∀ {ds : List D} {e : D}, Rp X.K G (.tup ds) v → fl e = true → Rp X.K G e w → RcAt A s u u' false := fun {ds e} r1 f r2 => by
    obtain ⟨a, xs, rfl, a1, a2⟩ := r1
    cases q1
    obtain ⟨its, t1, t2, _⟩ := I.tuple (sqT_mono fz nz a1)
    exact (rc_tuple t2 hu0 q2 (fl_v f r2)).1
  have flst : ∀ {ds : List D} {e : D}, Rp X.K G e v → fl e = true → Rp X.K G (.lst ds) w → RcAt A s u u' false := fun {ds e} r1 f r2 => by
    obtain ⟨a, xs, rfl, a1, a2⟩ := r2
    cases q2
    obtain ⟨its, t1, t2, _⟩ := I.list (.inl (fz.rd nz a1))
    exact (rc_list t2.isList hu0 q1 (fl_v f r1)).2
  have ftup : ∀ {ds : List D} {e : D}, Rp X.K G e v → fl e = true → Rp X.K G (.tup ds) w → RcAt A s u u' false := fun {ds e} r1 f r2 => by
    obtain ⟨a, xs, rfl, a1, a2⟩ := r2
    cases q2
    obtain ⟨its, t1, t2, _⟩ := I.tuple (sqT_mono fz nz a1)
    exact (rc_tuple t2 hu0 q1 (fl_v f r1)).2
  have flat : ∀ {d e : D}, fl d = true → fl e = true → Rp X.K G d v → Rp X.K G e w → RcAt A s u u' (eqD d e) := fun {d e} f1 f2 r1 r2 => by
    have z := rc_flat (A := A) (s := s) q1 q2 (fl_v f1 r1) (fl_v f2 r2)
    rw [fl_eq f1 f2 r1 r2] at z
    exact z
  cases d <;> first | (exact absurd h1 Bool.false_ne_true) | skip
  all_goals cases e <;> first | (exact absurd h2 Bool.false_ne_true) | skip
  case lst.lst ds es =>
    obtain ⟨a, xs, rfl, a1, a2⟩ := r1
    obtain ⟨b, ys, rfl, b1, b2⟩ := r2
    cases q1
    cases q2
    obtain ⟨its, t1, t2, _⟩ := I.list (.inl (fz.rd nz a1))
    obtain ⟨its2, t3, t4, _⟩ := I.list (.inl (fz.rd nz b1))
    have l1 : its.toArray.size = ds.length := by rw [List.size_toArray, ← t1.length, rpl_len a2]
    have l2 : its2.toArray.size = es.length := by rw [List.size_toArray, ← t3.length, rpl_len b2]
    show RcAt A s _ _ (eqL ds es)
    by_cases hl : ds.length = es.length
    · rw [eqL_all ds es hl, ← l1]
      exact RcAt.lists t2.isList t4.isList (by omega) hu0 (items_eq ih h1 h2 a2 b2 t1 t3 hu)
    · rw [eqL_ne hl]
      exact RcAt.lists_lengths t2.isList t4.isList (by simp only [bne_iff_ne]; omega) hu0
  case tup.tup ds es =>
    obtain ⟨a, xs, rfl, a1, a2⟩ := r1
    obtain ⟨b, ys, rfl, b1, b2⟩ := r2
    cases q1
    cases q2
    obtain ⟨its, t1, t2, _⟩ := I.tuple (sqT_mono fz nz a1)
    obtain ⟨its2, t3, t4, _⟩ := I.tuple (sqT_mono fz nz b1)
    have l1 : its.toArray.size = ds.length := by rw [List.size_toArray, ← t1.length, rpl_len a2]
    have l2 : its2.toArray.size = es.length := by rw [List.size_toArray, ← t3.length, rpl_len b2]
    have main := RcAt.tuples t2 t4 hu0 (items_eq ih h1 h2 a2 b2 t1 t3 hu)
    have key : ((List.range (min its.toArray.size its2.toArray.size)).all (fun j => eqD (ds.getD j .non) (es.getD j .non)) && its.toArray.size == its2.toArray.size) = eqL ds es := by
      by_cases hl : ds.length = es.length
      · rw [eqL_all ds es hl, l1, l2, hl]
        simp
      · rw [eqL_ne hl, l1, l2]
        simp [hl]
    rw [key] at main
    exact main
  case lst.tup ds es =>
    obtain ⟨a, xs, rfl, a1, a2⟩ := r1
    obtain ⟨b, ys, rfl, b1, b2⟩ := r2
    cases q1
    cases q2
    obtain ⟨its, t1, t2, _⟩ := I.list (.inl (fz.rd nz a1))
    obtain ⟨its2, t3, t4, _⟩ := I.tuple (sqT_mono fz nz b1)
    exact RcAt.list_tuple t2.isList t4 hu0
  case tup.lst ds es =>
    obtain ⟨a, xs, rfl, a1, a2⟩ := r1
    obtain ⟨b, ys, rfl, b1, b2⟩ := r2
    cases q1
    cases q2
    obtain ⟨its, t1, t2, _⟩ := I.tuple (sqT_mono fz nz a1)
    obtain ⟨its2, t3, t4, _⟩ := I.list (.inl (fz.rd nz b1))
    exact RcAt.tuple_list t2 t4.isList hu0
  case lst.non => exact lstf r1 rfl r2
  case tup.non => exact tupf r1 rfl r2
  case non.lst => exact flst r1 rfl r2
  case non.tup => exact ftup r1 rfl r2
  case lst.bl => exact lstf r1 rfl r2
  case tup.bl => exact tupf r1 rfl r2
  case bl.lst => exact flst r1 rfl r2
  case bl.tup => exact ftup r1 rfl r2
  case lst.int => exact lstf r1 rfl r2
  case tup.int => exact tupf r1 rfl r2
  case int.lst => exact flst r1 rfl r2
  case int.tup => exact ftup r1 rfl r2
  case lst.str => exact lstf r1 rfl r2
  case tup.str => exact tupf r1 rfl r2
  case str.lst => exact flst r1 rfl r2
  case str.tup => exact ftup r1 rfl r2
  all_goals exact flat rfl rfl r1 r2
theorem rn_flat {A : Around} : ∀ {v w : V} {u u' : Value}, RelV v u → RelV w u' → flatV v = true → flatV w = true → RcNeAt A s u u' (!eqV v w)
  | .non, .non, u, u', r1, r2, _, _ => by
    cases r1
    cases r2
    exact RcNeAt.none_none
  | .non, .bl b2, u, u', r1, r2, _, _ => by
    cases r1
    cases r2
    exact RcNeAt.none_bool b2
  | .non, .int i2, u, u', r1, r2, _, _ => by
    cases r1
    obtain ⟨t2, rfl⟩ := r2
    exact RcNeAt.none_int i2 t2
  | .non, .str z2, u, u', r1, r2, _, _ => by
    cases r1
    obtain ⟨t2, rfl⟩ := r2
    exact RcNeAt.none_str z2 t2
  | .bl b1, .non, u, u', r1, r2, _, _ => by
    cases r1
    cases r2
    exact RcNeAt.bool_none b1
  | .bl b1, .bl b2, u, u', r1, r2, _, _ => by
    cases r1
    cases r2
    exact RcNeAt.bool_bool b1 b2
  | .bl b1, .int i2, u, u', r1, r2, _, _ => by
    cases r1
    obtain ⟨t2, rfl⟩ := r2
    exact RcNeAt.bool_int b1 i2 t2
  | .bl b1, .str z2, u, u', r1, r2, _, _ => by
    cases r1
    obtain ⟨t2, rfl⟩ := r2
    exact RcNeAt.bool_str b1 z2 t2
  | .int i1, .non, u, u', r1, r2, _, _ => by
    obtain ⟨t1, rfl⟩ := r1
    cases r2
    exact RcNeAt.int_none i1 t1
  | .int i1, .bl b2, u, u', r1, r2, _, _ => by
    obtain ⟨t1, rfl⟩ := r1
    cases r2
    exact RcNeAt.int_bool i1 t1 b2
  | .int i1, .int i2, u, u', r1, r2, _, _ => by
    obtain ⟨t1, rfl⟩ := r1
    obtain ⟨t2, rfl⟩ := r2
    exact RcNeAt.int_int i1 t1 i2 t2
  | .int i1, .str z2, u, u', r1, r2, _, _ => by
    obtain ⟨t1, rfl⟩ := r1
    obtain ⟨t2, rfl⟩ := r2
    exact RcNeAt.int_str i1 t1 z2 t2
  | .str z1, .non, u, u', r1, r2, _, _ => by
    obtain ⟨t1, rfl⟩ := r1
    cases r2
    exact RcNeAt.str_none z1 t1
  | .str z1, .bl b2, u, u', r1, r2, _, _ => by
    obtain ⟨t1, rfl⟩ := r1
    cases r2
    exact RcNeAt.str_bool z1 t1 b2
  | .str z1, .int i2, u, u', r1, r2, _, _ => by
    obtain ⟨t1, rfl⟩ := r1
    obtain ⟨t2, rfl⟩ := r2
    exact RcNeAt.str_int z1 t1 i2 t2
  | .str z1, .str z2, u, u', r1, r2, _, _ => by
    obtain ⟨t1, rfl⟩ := r1
    obtain ⟨t2, rfl⟩ := r2
    exact RcNeAt.str_str z1 t1 z2 t2
  | .byt _, _, _, _, _, _, f, _ => absurd f Bool.false_ne_true
  | .flt _, _, _, _, _, _, f, _ => absurd f Bool.false_ne_true
  | .ref _, _, _, _, _, _, f, _ => absurd f Bool.false_ne_true
  | .ty _, _, _, _, _, _, f, _ => absurd f Bool.false_ne_true
  | .non, .byt _, _, _, _, _, _, f => absurd f Bool.false_ne_true
  | .bl _, .byt _, _, _, _, _, _, f => absurd f Bool.false_ne_true
  | .int _, .byt _, _, _, _, _, _, f => absurd f Bool.false_ne_true
  | .str _, .byt _, _, _, _, _, _, f => absurd f Bool.false_ne_true
  | .non, .flt _, _, _, _, _, _, f => absurd f Bool.false_ne_true
  | .bl _, .flt _, _, _, _, _, _, f => absurd f Bool.false_ne_true
  | .int _, .flt _, _, _, _, _, _, f => absurd f Bool.false_ne_true
  | .str _, .flt _, _, _, _, _, _, f => absurd f Bool.false_ne_true
  | .non, .ref _, _, _, _, _, _, f => absurd f Bool.false_ne_true
  | .bl _, .ref _, _, _, _, _, _, f => absurd f Bool.false_ne_true
  | .int _, .ref _, _, _, _, _, _, f => absurd f Bool.false_ne_true
  | .str _, .ref _, _, _, _, _, _, f => absurd f Bool.false_ne_true
  | .non, .ty _, _, _, _, _, _, f => absurd f Bool.false_ne_true
  | .bl _, .ty _, _, _, _, _, _, f => absurd f Bool.false_ne_true
  | .int _, .ty _, _, _, _, _, _, f => absurd f Bool.false_ne_true
  | .str _, .ty _, _, _, _, _, _, f => absurd f Bool.false_ne_true
theorem rn_list {A : Around} {a : Addr} {its : Array Value} (h : s.heap.IsList a its) (hu : A.units < cLine) : ∀ {w : V} {u : Value}, RelV w u → flatV w = true → RcNeAt A s (.ref a) u true ∧ RcNeAt A s u (.ref a) true
  | .non, u, r, _ => by
    cases r
    exact ⟨RcNeAt.list_none h hu, RcNeAt.none_list h hu⟩
  | .bl b2, u, r, _ => by
    cases r
    exact ⟨RcNeAt.list_bool b2 h hu, RcNeAt.bool_list b2 h hu⟩
  | .int i2, u, r, _ => by
    obtain ⟨t2, rfl⟩ := r
    exact ⟨RcNeAt.list_int i2 t2 h hu, RcNeAt.int_list i2 t2 h hu⟩
  | .str z2, u, r, _ => by
    obtain ⟨t2, rfl⟩ := r
    exact ⟨RcNeAt.list_str z2 t2 h hu, RcNeAt.str_list z2 t2 h hu⟩
  | .byt _, _, _, f => absurd f Bool.false_ne_true
  | .flt _, _, _, f => absurd f Bool.false_ne_true
  | .ref _, _, _, f => absurd f Bool.false_ne_true
  | .ty _, _, _, f => absurd f Bool.false_ne_true
theorem rn_tuple {A : Around} {a : Addr} {its : Array Value} (h : s.heap.IsTuple a its) (hu : A.units < cLine) : ∀ {w : V} {u : Value}, RelV w u → flatV w = true → RcNeAt A s (.ref a) u true ∧ RcNeAt A s u (.ref a) true
  | .non, u, r, _ => by
    cases r
    exact ⟨RcNeAt.tuple_none h hu, RcNeAt.none_tuple h hu⟩
  | .bl b2, u, r, _ => by
    cases r
    exact ⟨RcNeAt.tuple_bool b2 h hu, RcNeAt.bool_tuple b2 h hu⟩
  | .int i2, u, r, _ => by
    obtain ⟨t2, rfl⟩ := r
    exact ⟨RcNeAt.tuple_int i2 t2 h hu, RcNeAt.int_tuple i2 t2 h hu⟩
  | .str z2, u, r, _ => by
    obtain ⟨t2, rfl⟩ := r
    exact ⟨RcNeAt.tuple_str z2 t2 h hu, RcNeAt.str_tuple z2 t2 h hu⟩
  | .byt _, _, _, f => absurd f Bool.false_ne_true
  | .flt _, _, _, f => absurd f Bool.false_ne_true
  | .ref _, _, _, f => absurd f Bool.false_ne_true
  | .ty _, _, _, f => absurd f Bool.false_ne_true
theorem rn_D (I : Inv X pins sg H s) (fz : Exz G H) (nz : Nz G) (n : Nat) (d e : D) (A : Around) (v w : V) (u u' : Value) (h1 : pl (n + 1) d = true) (h2 : pl (n + 1) e = true) (r1 : Rp X.K G d v) (r2 : Rp X.K G e w) (q1 : RelV v u) (q2 : RelV w u') (hu : A.units + (n + 1) < cLine) : RcNeAt A s u u' (!eqD d e) := by
  have hu0 : A.units < cLine := by omega
  have ih := eqAt_D (X := X) I fz nz n
  have lstf : ∀ {ds : List D} {e : D}, Rp X.K G (.lst ds) v → fl e = true → Rp X.K G e w → RcNeAt A s u u' true := fun {ds e} r1 f r2 => by
    obtain ⟨a, xs, rfl, a1, a2⟩ := r1
    cases q1
    obtain ⟨its, t1, t2, _⟩ := I.list (.inl (fz.rd nz a1))
    exact (rn_list t2.isList hu0 q2 (fl_v f r2)).1
  have tupf : ∀ {ds : List D} {e : D}, Rp X.K G (.tup ds) v → fl e = true → Rp X.K G e w → RcNeAt A s u u' true := fun {ds e} r1 f r2 => by
    obtain ⟨a, xs, rfl, a1, a2⟩ := r1
    cases q1
    obtain ⟨its, t1, t2, _⟩ := I.tuple (sqT_mono fz nz a1)
    exact (rn_tuple t2 hu0 q2 (fl_v f r2)).1
  have flst : ∀ {ds : List D} {e : D}, Rp X.K G e v → fl e = true → Rp X.K G (.lst ds) w → RcNeAt A s u u' true := fun {ds e} r1 f r2 => by
    obtain ⟨a, xs, rfl, a1, a2⟩ := r2
    cases q2
    obtain ⟨its, t1, t2, _⟩ := I.list (.inl (fz.rd nz a1))
    exact (rn_list t2.isList hu0 q1 (fl_v f r1)).2
  have ftup : ∀ {ds : List D} {e : D}, Rp X.K G e v → fl e = true → Rp X.K G (.tup ds) w → RcNeAt A s u u' true := fun {ds e} r1 f r2 => by
    obtain ⟨a, xs, rfl, a1, a2⟩ := r2
    cases q2
    obtain ⟨its, t1, t2, _⟩ := I.tuple (sqT_mono fz nz a1)
    exact (rn_tuple t2 hu0 q1 (fl_v f r1)).2
  have flat : ∀ {d e : D}, fl d = true → fl e = true → Rp X.K G d v → Rp X.K G e w → RcNeAt A s u u' (!eqD d e) := fun {d e} f1 f2 r1 r2 => by
    have z := rn_flat (A := A) (s := s) q1 q2 (fl_v f1 r1) (fl_v f2 r2)
    rw [fl_eq f1 f2 r1 r2] at z
    exact z
  cases d <;> first | (exact absurd h1 Bool.false_ne_true) | skip
  all_goals cases e <;> first | (exact absurd h2 Bool.false_ne_true) | skip
  case lst.lst ds es =>
    obtain ⟨a, xs, rfl, a1, a2⟩ := r1
    obtain ⟨b, ys, rfl, b1, b2⟩ := r2
    cases q1
    cases q2
    obtain ⟨its, t1, t2, _⟩ := I.list (.inl (fz.rd nz a1))
    obtain ⟨its2, t3, t4, _⟩ := I.list (.inl (fz.rd nz b1))
    have l1 : its.toArray.size = ds.length := by rw [List.size_toArray, ← t1.length, rpl_len a2]
    have l2 : its2.toArray.size = es.length := by rw [List.size_toArray, ← t3.length, rpl_len b2]
    show RcNeAt A s _ _ (!eqL ds es)
    by_cases hl : ds.length = es.length
    · rw [eqL_all ds es hl, ← l1]
      exact RcNeAt.lists t2.isList t4.isList (by omega) hu0 (items_eq ih h1 h2 a2 b2 t1 t3 hu)
    · rw [eqL_ne hl]
      exact RcNeAt.lists_lengths t2.isList t4.isList (by simp only [bne_iff_ne]; omega) hu0
  case tup.tup ds es =>
    obtain ⟨a, xs, rfl, a1, a2⟩ := r1
    obtain ⟨b, ys, rfl, b1, b2⟩ := r2
    cases q1
    cases q2
    obtain ⟨its, t1, t2, _⟩ := I.tuple (sqT_mono fz nz a1)
    obtain ⟨its2, t3, t4, _⟩ := I.tuple (sqT_mono fz nz b1)
    have l1 : its.toArray.size = ds.length := by rw [List.size_toArray, ← t1.length, rpl_len a2]
    have l2 : its2.toArray.size = es.length := by rw [List.size_toArray, ← t3.length, rpl_len b2]
    have main := RcNeAt.tuples t2 t4 hu0 (items_eq ih h1 h2 a2 b2 t1 t3 hu)
    have key : ((List.range (min its.toArray.size its2.toArray.size)).all (fun j => eqD (ds.getD j .non) (es.getD j .non)) && its.toArray.size == its2.toArray.size) = eqL ds es := by
      by_cases hl : ds.length = es.length
      · rw [eqL_all ds es hl, l1, l2, hl]
        simp
      · rw [eqL_ne hl, l1, l2]
        simp [hl]
    rw [key] at main
    exact main
  case lst.tup ds es =>
    obtain ⟨a, xs, rfl, a1, a2⟩ := r1
    obtain ⟨b, ys, rfl, b1, b2⟩ := r2
    cases q1
    cases q2
    obtain ⟨its, t1, t2, _⟩ := I.list (.inl (fz.rd nz a1))
    obtain ⟨its2, t3, t4, _⟩ := I.tuple (sqT_mono fz nz b1)
    exact RcNeAt.list_tuple t2.isList t4 hu0
  case tup.lst ds es =>
    obtain ⟨a, xs, rfl, a1, a2⟩ := r1
    obtain ⟨b, ys, rfl, b1, b2⟩ := r2
    cases q1
    cases q2
    obtain ⟨its, t1, t2, _⟩ := I.tuple (sqT_mono fz nz a1)
    obtain ⟨its2, t3, t4, _⟩ := I.list (.inl (fz.rd nz b1))
    exact RcNeAt.tuple_list t2 t4.isList hu0
  case lst.non => exact lstf r1 rfl r2
  case tup.non => exact tupf r1 rfl r2
  case non.lst => exact flst r1 rfl r2
  case non.tup => exact ftup r1 rfl r2
  case lst.bl => exact lstf r1 rfl r2
  case tup.bl => exact tupf r1 rfl r2
  case bl.lst => exact flst r1 rfl r2
  case bl.tup => exact ftup r1 rfl r2
  case lst.int => exact lstf r1 rfl r2
  case tup.int => exact tupf r1 rfl r2
  case int.lst => exact flst r1 rfl r2
  case int.tup => exact ftup r1 rfl r2
  case lst.str => exact lstf r1 rfl r2
  case tup.str => exact tupf r1 rfl r2
  case str.lst => exact flst r1 rfl r2
  case str.tup => exact ftup r1 rfl r2
  all_goals exact flat rfl rfl r1 r2
/-- == and != of plain data -/
def rEqP (K : PySem.W.Frag) (neg : Bool) : R2 := fun x y H Q => ∃ (n : Nat) (G : Hp) (d e : D), Exz G H ∧ Nz G ∧ n ≤ 60 ∧ pl (n + 1) d = true ∧ pl (n + 1) e = true ∧ Rp K G d x ∧ Rp K G e y ∧ Q (.bl (if neg then !eqD d e else eqD d e)) H
theorem op_eqP (hu : X.A.units + 64 < cLine) : OpR X (compareOp .Eq) (rEqP X.K false) := by
  intro pins s sg H x y v u Q I rx ry h
  obtain ⟨n, G, d, e, fz, nz, hn, p1, p2, r1, r2, q⟩ := h
  exact rc_D I fz nz n d e X.A x y v u p1 p2 r1 r2 rx ry (by omega) X.prog X.w X.xe _ ⟨.bl _, H, I, rfl, q⟩
theorem op_neP (hu : X.A.units + 64 < cLine) : OpR X (compareOp .NotEq) (rEqP X.K true) := by
  intro pins s sg H x y v u Q I rx ry h
  obtain ⟨n, G, d, e, fz, nz, hn, p1, p2, r1, r2, q⟩ := h
  exact rn_D I fz nz n d e X.A x y v u p1 p2 r1 r2 rx ry (by omega) X.prog X.w X.xe _ ⟨.bl _, H, I, rfl, q⟩
end
/-! ### by data -/
/-- w stands for the plain data d -/
inductive Pk (ka : Cells) : W → D → Prop where
  | v {d} : Pk ka (.val d) d
  | w {d} : Pk ka (.vw d) d
  | c {a ds} (j : Nat) (h : ka[j]? = some (a, .lst ds)) : Pk ka (.val (.adr a)) (.lst ds)
section
variable {K : PySem.W.Frag} {B F F0 : Hp} {ro : Ro} {ka : Cells} {ta : List (V × W)} {sg : L2.St} {H : Hp} {x y : W}
/-- what may be read with the cells' lists beside -/
def gH (H : Hp) : Hp := fun a => match H a with
  | some (.frz _ u) => if lk u then some u else none
  | z => z
theorem gH_nz : Nz (gH H) := fun a u h => by
  unfold gH at h
  split at h
  · split at h
    · rename_i hx
      cases h
      cases u <;> first | rfl | cases hx
    · cases h
  · rename_i z q
    cases u with
    | frz ob z => exact absurd h (q ob z)
    | _ => rfl
theorem gH_exz : Exz (gH H) H := fun a u h => by
  unfold gH at h
  split at h
  · rename_i ob x q
    split at h
    · rename_i hx
      cases h
      exact .inr ⟨hx, ob, q⟩
    · cases h
  · exact .inl h
theorem exz_gH {G : Hp} (e : Exz G H) (n : Nz G) : Exz G (gH H) := fun a u h => by
  refine .inl ?_
  have hu := n a u h
  unfold gH
  rcases e a u h with q | ⟨k, o, q⟩
  · rw [q]
    cases u with
    | frz o z => cases hu
    | _ => rfl
  · rw [q]
    show (if lk u then some u else none) = some u
    rw [k]
    rfl
theorem Pk.get {d : D} {v : V} (l : Pk ka x d) (e : EnF K B F ro ka ta sg H) (h : WOk K B F v x) : Rp K (gH H) d v := by
  cases l with
  | v => exact Rp.mono (exz_gH e.fz e.nz) e.nz d v h
  | w => exact Rp.mono (exz_gH (uni_exz e.fz e.fr) (uni_nz e.nz)) (uni_nz e.nz) d v h
  | @c a ds j hj =>
    obtain ⟨_, _, xs, h1, h2⟩ := e.ce _ (List.mem_of_getElem? hj)
    have hv : v = .ref a := h
    refine ⟨a, xs, hv, .inl ?_, RpL.mono (exz_gH e.fz e.nz) e.nz _ _ h2⟩
    unfold gH
    rw [h1]
theorem rv_eqP {d e : D} (l1 : Pk ka x d) (l2 : Pk ka y e) (p1 : pl 61 d = true) (p2 : pl 61 e = true) : RvD K (rEqP K false) ka x y (.val (.bl (eqD d e))) := fun B F0 ro ta sg H u v Q en h1 h2 q => by
  obtain ⟨F, g, ef⟩ := id en
  exact ⟨60, gH H, d, e, gH_exz, gH_nz, Nat.le_refl _, p1, p2, l1.get ef (ef.tm _ h1), l2.get ef (ef.tm _ h2), q _ _ (en.push_imm fun _ => rfl)⟩
theorem rv_neP {d e : D} (l1 : Pk ka x d) (l2 : Pk ka y e) (p1 : pl 61 d = true) (p2 : pl 61 e = true) : RvD K (rEqP K true) ka x y (.val (.bl (!eqD d e))) := fun B F0 ro ta sg H u v Q en h1 h2 q => by
  obtain ⟨F, g, ef⟩ := id en
  exact ⟨60, gH H, d, e, gH_exz, gH_nz, Nat.le_refl _, p1, p2, l1.get ef (ef.tm _ h1), l2.get ef (ef.tm _ h2), q _ _ (en.push_imm fun _ => rfl)⟩
end
end DL

/-! DO: operators that a class of the text defines (own work). -/
namespace DL
open PySem L2 PySem.W

section
variable {X : Cx} {CX : CXT} {k : Nat} {C f : Addr} {fd : FuncData} {ps : List Str} {sp : Sp} {E : XK}
/-- the same state, seen from other surroundings of the same frames -/
theorem inv_moved {A : Around} {pins : List (Addr × Obj)} {s : Shared} {sg : L2.St} {H : Hp} (I : L2.Inv X pins sg H s) (hd : X.calm = true → A.handled = none) (ha : A.frames = X.A.frames) : L2.Inv { X with A := A } pins sg H s :=
  { I with ok := { I.ok with hd := hd, frames := ha.trans I.ok.frames } }
/-- a def of the text, called within a built-in's work: the library's run_fn in the surroundings moved there -/
theorem run_fn {A : Around} {pins : List (Addr × Obj)} {s : Shared} {sg : L2.St} {H : Hp} {vs : List V} {us : List Value} {Q : VK} (F : FnOk X.prog X.w X.K X.mg X.base CX k f fd ps sp) (hr : Room k A) (ha : A.frames = X.A.frames)
    (hb : Binds X.K fd ps []) (hx : Passes CX X E) (I : L2.Inv X pins sg H s) (rv : Vals vs us) (h : sp vs H Q E) : wpAny (model X.prog X.w) A (call (.ref f) us) (EP X pins sg Q) X.xe s := by
  have home : ∀ {pn : List (Addr × Obj)} {σ : L2.St} {H0 : Hp} {s0 : Shared}, L2.Inv { X with A := A } pn σ H0 s0 → L2.Inv X pn σ H0 s0 := fun J => inv_moved (X := { X with A := A }) (A := X.A) J I.ok.hd ha.symm
  have there := L2.run_fn (X := { X with A := A }) (dvs := []) (ds := []) (vs := vs) (us := us) (Q := Q) (E := E) F hr hb .nil (fun pn σ H0 s0 e s' J c => hx pn σ H0 s0 e s' (home J) c) (inv_moved I (fun _ => hr.hd) ha) rv (by rw [List.append_nil]; exact h)
  exact wpAny_mono there (fun u s2 ⟨v, H', J, r, q⟩ => ⟨v, H', home J, r, q⟩) fun _ _ z => z
/-- where an instance stands, for the library's rules -/
theorem inst_at {pins : List (Addr × Obj)} {s : Shared} {sg : L2.St} {H : Hp} {a dx : Addr} {fs : List (Str × V)} (I : Inv X pins sg H s) (h : H a = some (.ins C dx fs)) : ∃ od, PySem.W.InstAt s.heap a (PySem.W.instObj C dx) C (some od) := by
  obtain ⟨mA, J, _⟩ := ins_get I.hok h
  obtain ⟨od, J2, _⟩ := J.look
  exact ⟨od, J2⟩
/-- the special method m of the class at C is the def at f -/
structure Sm (K : PySem.W.Frag) (C : Addr) (m : Str) (f : Addr) : Prop where
  at_ : findIn K (.ref C) m = some (some (.ref f))
  fn : isFn K (.ref f) = true
abbrev rOwn1 (C : Addr) (sp : Sp) (E : XK) : V → Hp → VK → Prop := fun x H Q => ∃ a dx fs, x = .ref a ∧ H a = some (.ins C dx fs) ∧ sp [x] H Q E
theorem un_own (m : Sm X.K C "__neg__" f) (F : FnOk X.prog X.w X.K X.mg X.base CX k f fd ps sp) (hr : Room k X.A) (hb : Binds X.K fd ps []) (hx : Passes CX X E) : UnR X (unaryOp .USub) (rOwn1 C sp E) := by
  intro pins s sg H x v Q I rx h
  obtain ⟨a, dx, fs, rfl, ha, h⟩ := h
  cases rx
  obtain ⟨od, J⟩ := inst_at I ha
  obtain ⟨m1, hF⟩ := I.fr
  exact ksp_neg hF I.ok.mod.kin J m.at_ m.fn (run_fn F hr rfl hb hx I (.cons (show RelV (.ref a) (.ref a) from rfl) .nil) h)
theorem looks_ty {M : Model} {s : Shared} {a : Addr} {T : String} (h : s.TypeIs (.ref a) T) : Looks M s.heap (typeOf (.ref a)) (.type T) := by
  obtain ⟨o, ho, hc⟩ := h
  intro A Q E s2 kp q
  exact wpAny_typeOf_ref (kp _ _ ho) (hc ▸ q)
/-- the type of a value, as the library looks for it -/
def TyL (X : Cx) (x : V) (H : Hp) (T : String) : Prop := ∀ pins s sg u, Inv X pins sg H s → RelV x u → Looks (model X.prog X.w) s.heap (typeOf u) (.type T)
theorem tyl_non {H : Hp} : TyL X .non H "NoneType" := fun _ _ _ u _ r => by cases r; exact Looks.of_pure rfl
theorem tyl_bl {H : Hp} {b : Bool} : TyL X (.bl b) H "bool" := fun _ _ _ u _ r => by cases r; exact Looks.of_pure rfl
theorem tyl_int {H : Hp} {b : Int} : TyL X (.int b) H "int" := fun _ _ _ u _ r => by obtain ⟨t, rfl⟩ := r; exact Looks.of_pure rfl
theorem tyl_str {H : Hp} {b : Str} : TyL X (.str b) H "str" := fun _ _ _ u _ r => by obtain ⟨t, rfl⟩ := r; exact Looks.of_pure rfl
theorem tyl_tup {H : Hp} {a : Addr} {xs : List V} (h : SqT X.K H a xs) : TyL X (.ref a) H "tuple" := fun _ _ _ u I r => by
  cases r
  obtain ⟨its, _, t1, _⟩ := I.tuple h
  exact looks_ty t1.typeIs
theorem tyl_lst {H : Hp} {a : Addr} {xs : List V} (h : SqL X.K H a xs) : TyL X (.ref a) H "list" := fun _ _ _ u I r => by
  cases r
  obtain ⟨its, _, t1, _⟩ := I.list h
  exact looks_ty t1.isList.typeIs
/-- what the text says of a class's own operator, against a value of the built-in type T -/
structure Bo (K : PySem.W.Frag) (C : Addr) (op : Operator) (f : Addr) : Prop where
  first : selfFirst K C = true
  sm : Sm K C (PySem.dunder op.info.2) f
  refl : findIn K (.ref C) (dunderR op.info.2) = some none
structure BoT (K : PySem.W.Frag) (C : Addr) (op : Operator) (T : String) : Prop where
  l : ∃ fo, findIn K (.type T) (PySem.dunder op.info.2) = some fo
  r : ∃ ro, findIn K (.type T) (dunderR op.info.2) = some ro
  sub : subIn K (.type T) (.ref C) = some false
/-- the left operand's method is asked first, and answers: whatever the two operands are -/
theorem left_asked {prog : Program} {w : World} {A : Around} {E : Value → Shared → Prop} {s : Shared} {a b ta tb : Value} {nm : String} {r p : Bool} {ro : Option Value} {R : Option Value → Shared → Prop}
    (la : Looks (model prog w) s.heap (typeOf a) ta) (lb : Looks (model prog w) s.heap (typeOf b) tb) (ne : (ta == tb) = false) (fa : Looks (model prog w) s.heap (fillsNumberSlot ta nm) true)
    (fb : Looks (model prog w) s.heap (fillsNumberSlot tb nm) r) (sb : Looks (model prog w) s.heap (isSubtype tb ta) false) (pa : Looks (model prog w) s.heap (numberSlotInPython ta nm) true)
    (pb : Looks (model prog w) s.heap (numberSlotInPython tb nm) p) (lr : Looks (model prog w) s.heap (typeLookup tb (dunderR nm)) ro)
    (ask : wpAny (model prog w) A (tryMethod a (PySem.dunder nm) b) (fun u s2 => u.isSome = true ∧ R u s2) E s) : wpAny (model prog w) A (binaryOp1 nm a b) R E s := by
  obtain ⟨hh, ge, dr, tk, os⟩ := s
  unfold binaryOp1
  refine wpAny_bind (la.at (wpAny_bind (lb.at (wpAny_bind (fa.at ?_)))))
  rw [ne]
  cases r <;> cases p <;>
  · simp only [Bool.false_eq_true, if_false]
    ksp_lk
    refine wpAny_mono ask (fun u s2 z => ?_) fun _ _ e => e
    cases u with
    | none => exact absurd z.1 (by decide)
    | some v => exact wpAny_pure z.2
theorem op_answered {M : Model} {A : Around} {E : Value → Shared → Prop} {s : Shared} {a b : Value} {op : Operator} {Q : Value → Shared → Prop} (h : wpAny M A (binaryOp1 op.info.2 a b) (fun u s2 => ∃ v, u = some v ∧ Q v s2) E s) : wpAny M A (binaryOp op a b) Q E s := by
  unfold binaryOp
  revert h
  rcases op.info with ⟨sy, nm⟩
  intro h
  refine wpAny_holding (wpAny_bind (wpAny_mono h (fun u s2 z => ?_) fun _ _ e => e))
  rcases z with ⟨v, rfl, z⟩
  exact wpAny_pure z
/-- x op b by the class of x, whatever b's built-in type does -/
theorem bin_look {prog : Program} {w : World} {A : Around} {E : Value → Shared → Prop} {s : Shared} {K : PySem.W.Frag} {x C f L : Addr} {h0 : Heap} {m : Str → Option Value} {ox : Obj} {od : Option Obj} {op : Operator} {b : Value} {T : String} {Q : Value → Shared → Prop}
    (F : PyProof.Rows.Fr h0 L s.heap m) (X0 : K.In h0) (I : InstAt s.heap x ox C od) (hb : Looks (model prog w) s.heap (typeOf b) (.type T)) (o : Bo K C op f) (t : BoT K C op T)
    (h : wpAny (model prog w) A (call (.ref f) [.ref x, b]) (CmpBack Q) E s) : wpAny (model prog w) A (binaryOp op (.ref x) b) Q E s :=
  let XK := X0.keeps F.keep
  let ⟨_, _, hcd, hmro⟩ := ksp_first o.first
  let ⟨_, t1⟩ := t.l
  let ⟨_, t2⟩ := t.r
  op_answered (left_asked I.type hb (beq_eq_false_iff_ne.mpr fun z => nomatch z) (fills_K XK hcd hmro o.sm.at_) (ksp_fillsT XK t1 t2) (looks_subIn XK t.sub) (ksp_inPy XK o.sm.at_ o.refl (.inl rfl)) (Looks.of_pure rfl) (looks_findIn XK t2)
    (wpAny_mono (ksp_try XK I o.sm.at_ o.sm.fn h) (fun _ _ ⟨v, e, q⟩ => ⟨e ▸ rfl, v, e, q⟩) fun _ _ z => z))
theorem cmpBack_of {X : Cx} {pins : List (Addr × Obj)} {sg : L2.St} {Q : VK} {u : Value} {s : Shared} (h : EP X pins sg Q u s) : CmpBack (EP X pins sg Q) u s := by
  obtain ⟨v, H, I, r, q⟩ := h
  cases v with
  | non => cases r; exact ⟨.non, H, I, rfl, q⟩
  | bl b => cases r; exact ⟨.bl b, H, I, rfl, q⟩
  | int i => obtain ⟨t, rfl⟩ := r; exact ⟨.int i, H, I, ⟨t, rfl⟩, q⟩
  | str i => obtain ⟨t, rfl⟩ := r; exact ⟨.str i, H, I, ⟨t, rfl⟩, q⟩
  | byt i => obtain ⟨t, rfl⟩ := r; exact ⟨.byt i, H, I, ⟨t, rfl⟩, q⟩
  | flt i => obtain ⟨t, rfl⟩ := r; exact ⟨.flt i, H, I, ⟨t, rfl⟩, q⟩
  | ref a => cases r; exact ⟨.ref a, H, I, rfl, q⟩
  | ty n => cases r; exact ⟨.ty n, H, I, rfl, q⟩
/-- x op y, y of a built-in type for which the text's facts stand -/
abbrev rOwnT (X : Cx) (C : Addr) (op : Operator) (sp : Sp) (E : XK) : R2 := fun x y H Q => ∃ a dx fs T, x = .ref a ∧ H a = some (.ins C dx fs) ∧ TyL X y H T ∧ BoT X.K C op T ∧ sp [x, y] H Q E
theorem op_own {op : Operator} (o : Bo X.K C op f) (F : FnOk X.prog X.w X.K X.mg X.base CX k f fd ps sp) (hr : Room k X.A) (hb : Binds X.K fd ps []) (hx : Passes CX X E) : OpR X (binaryOp op) (rOwnT X C op sp E) := by
  intro pins s sg H x y v u Q I rx ry h
  obtain ⟨a, dx, fs, T, rfl, ha, ty, bt, h⟩ := h
  cases rx
  obtain ⟨od, J⟩ := inst_at I ha
  obtain ⟨m1, hF⟩ := I.fr
  exact bin_look hF I.ok.mod.kin J (ty pins s sg u I ry) o bt (wpAny_mono (run_fn F hr rfl hb hx I (.cons (show RelV (.ref a) (.ref a) from rfl) (.cons ry .nil)) h) (fun u2 s2 z => cmpBack_of z) fun _ _ z => z)
/-! ### == and != by the class's own __eq__ -/
/-- a type against which x's class goes first: a built-in one, or the class itself -/
inductive TyE (X : Cx) (C : Addr) (H : Hp) : V → Prop where
  | ty {y : V} {T : String} (h : TyL X y H T) (s : subIn X.K (.type T) (.ref C) = some false) : TyE X C H y
  | own {a dx : Addr} {fs : List (Str × V)} (h : H a = some (.ins C dx fs)) : TyE X C H (.ref a)
end
end DL

/-! DF: defs by contract, instances, exceptions by data (own work). -/
namespace DL
open PySem L2 PySem.W

/-! ### defs -/
/-- the def at f keeps the contract C -/
def Fn (P : Program) (w : World) (K : PySem.W.Frag) (mg : Str → Option Value) (base : Heap) (k : Nat) (f : Addr) (ps : List Str) (C : Ct) : Prop := ∃ fd, FnOk P w K mg base (L2.CX P w) k f fd ps (spC K C) ∧ Binds K fd ps []
section
variable {P : Program} {w : World} {K : PySem.W.Frag} {mg : Str → Option Value} {base : Heap} {f : Addr} {fd : FuncData} {x qual : Str} {params : Arguments} {body : List Stmt} {scope : Scope} {ps N : List Str} {k j : Nat} {C : Ct}
theorem Fn.up (F : Fn P w K mg base j f ps C) (h : j ≤ k) : Fn P w K mg base k f ps C := let ⟨fd, a, b⟩ := F; ⟨fd, a.mono h, b⟩
theorem fn_okG {dvs : List V} (F : FunD K x qual params body scope dvs [] f fd) (S : FnScope N ps scope)
    (hl : ∀ ws ka out, C ws ka out → ws.length = ps.length)
    (h : ∀ (cdv : Value) (A : Around) (outer : List Env) (s : Shared) (H : Hp) (E : XK), Room k (A.deeper (PyProof.Rows.envOfC qual scope s.heap.objs.size f cdv)) →
      ∃ t, PSs (cxOf (L2.CX P w) P w K mg base N qual scope f cdv A outer s H E) body t ∧
        ∀ ws ka out B F0 Q, C ws ka out → RtOk K B F0 out Q → RxOk K B F0 out E → Gp K B F0 [] (t { nx := fun _ H' => Q .non H', rt := Q }) (ws.map some ++ List.replicate (N.length - ps.length) none) ka) : FnOk P w K mg base (L2.CX P w) (k + 1) f fd ps (spC K C) := by
  refine (F.ok S (fun vs H Q E h => ?_) (fun cdv A outer s H vs Q E hr hs => ?_))
  · obtain ⟨B, F', ws, ka, out, hC, l, _⟩ := h
    rw [l]
    exact hl _ _ _ hC
  · obtain ⟨t, d, p⟩ := h cdv A outer s H E hr
    obtain ⟨B, F0, ws, ka, out, hC, l, ⟨F1, g1, en⟩, hR, hX⟩ := hs
    refine ⟨t, d, p ws ka out B F0 Q hC hR hX _ H ⟨F1, g1, ?_⟩⟩
    have hw := hl _ _ _ hC
    refine (en.frame (ro' := ws.map some ++ List.replicate (N.length - ps.length) none) (sg' := L2.start N vs) ?_ fun i w2 e => ?_).held fun p hp => by cases hp
    · unfold L2.start
      rw [List.length_append, List.length_append, List.length_map, List.length_map, List.length_replicate, List.length_replicate, l, hw]
    · unfold L2.start
      by_cases hi : i < ws.length
      · rw [List.getElem?_append_left (by rw [List.length_map]; exact hi), List.getElem?_map, List.getElem?_eq_getElem hi] at e
        have e' : ws[i] = w2 := by simpa using e
        rw [List.getElem?_append_left (by rw [List.length_map, l]; exact hi), List.getElem?_map, List.getElem?_eq_getElem (by rw [l]; exact hi)]
        refine ⟨vs[i], rfl, ?_⟩
        have := en.tm (vs[i]'(by rw [l]; exact hi), ws[i]) (by
          have hz : (vs.zip ws)[i]? = some (vs[i]'(by rw [l]; exact hi), ws[i]) := by
            rw [List.getElem?_zip_eq_some]
            exact ⟨List.getElem?_eq_getElem _, List.getElem?_eq_getElem _⟩
          exact List.mem_of_getElem? hz)
        rw [e'] at this
        exact this
      · rw [List.getElem?_append_right (by rw [List.length_map]; omega), List.getElem?_replicate] at e
        split at e <;> cases e
theorem fn_okF (F : FunD K x qual params body scope [] [] f fd) (S : FnScope N ps scope)
    (hb : ∀ (kV doc pm : Value) (an : Option Addr) (cdv ct : Value) (us : List Value), us.length = ps.length → bindArgs (PySem.W.fnOf x qual params body scope .none kV doc pm an cdv ct) ⟨us, []⟩ = pure (ps.zip us))
    (hl : ∀ ws ka out, C ws ka out → ws.length = ps.length)
    (h : ∀ (cdv : Value) (A : Around) (outer : List Env) (s : Shared) (H : Hp) (E : XK), Room k (A.deeper (PyProof.Rows.envOfC qual scope s.heap.objs.size f cdv)) →
      ∃ t, PSs (cxOf (L2.CX P w) P w K mg base N qual scope f cdv A outer s H E) body t ∧
        ∀ ws ka out B F0 Q, C ws ka out → RtOk K B F0 out Q → RxOk K B F0 out E → Gp K B F0 [] (t { nx := fun _ H' => Q .non H', rt := Q }) (ws.map some ++ List.replicate (N.length - ps.length) none) ka) : FnOk P w K mg base (L2.CX P w) (k + 1) f fd ps (spC K C) := fn_okG F S hl h
theorem fn_ok (F : FunD K x qual params body scope [] [] f fd) (S : FnScope N ps scope)
    (hb : ∀ (kV doc pm : Value) (an : Option Addr) (cdv ct : Value) (us : List Value), us.length = ps.length → bindArgs (PySem.W.fnOf x qual params body scope .none kV doc pm an cdv ct) ⟨us, []⟩ = pure (ps.zip us))
    (hl : ∀ ws ka out, C ws ka out → ws.length = ps.length)
    (h : ∀ (cdv : Value) (A : Around) (outer : List Env) (s : Shared) (H : Hp) (E : XK), Room k (A.deeper (PyProof.Rows.envOfC qual scope s.heap.objs.size f cdv)) →
      ∃ t, PSs (cxOf (L2.CX P w) P w K mg base N qual scope f cdv A outer s H E) body t ∧
        ∀ ws ka out B F0 Q, C ws ka out → RtOk K B F0 out Q → RxOk K B F0 out E → Gp K B F0 [] (t { nx := fun _ H' => Q .non H', rt := Q }) (ws.map some ++ List.replicate (N.length - ps.length) none) ka) : Fn P w K mg base (k + 1) f ps C := ⟨fd, fn_okF F S hb hl h, F.bindsN hb⟩
end
/-- the def behind a contract, and what is known of it -/
noncomputable def Fn.fd {P : Program} {w : World} {K : PySem.W.Frag} {mg : Str → Option Value} {base : Heap} {k : Nat} {f : Addr} {ps : List Str} {C : Ct} (F : Fn P w K mg base k f ps C) : FuncData := Classical.choose F
theorem Fn.ok {P : Program} {w : World} {K : PySem.W.Frag} {mg : Str → Option Value} {base : Heap} {k : Nat} {f : Addr} {ps : List Str} {C : Ct} (F : Fn P w K mg base k f ps C) : FnOk P w K mg base (L2.CX P w) k f F.fd ps (spC K C) := (Classical.choose_spec F).1
theorem Fn.bn {P : Program} {w : World} {K : PySem.W.Frag} {mg : Str → Option Value} {base : Heap} {k : Nat} {f : Addr} {ps : List Str} {C : Ct} (F : Fn P w K mg base k f ps C) : Binds K F.fd ps [] := (Classical.choose_spec F).2
section
variable {X : Cx}
theorem passes_no : Passes (L2.CX X.prog X.w) X (fun _ _ _ => False) := fun _ _ _ _ _ _ _ ⟨_, _, _, _, _, _, _, _, _, _, _, _, z⟩ => z.elim
end
end DL

/-! DG: instances by data (own work). -/
namespace DL
open PySem L2 PySem.W

section
variable {K : PySem.W.Frag} {B F F0 : Hp} {ro : Ro} {ka k1 k2 k3 kr : Cells} {ta : List (V × W)} {sg : L2.St} {H H' : Hp} {te tf tg : TE} {tr : TA} {tt : TT} {w x y z : W} {n : Nd} {C dx a : Addr} {fs : List (Str × D)} {b : Bool}

theorem rpf_lookup {F : Hp} : ∀ {fs : List (Str × D)} {xs : List (Str × V)} {f : Str} {d : D}, RpF K F fs xs → fs.lookup f = some d → ∃ v, xs.lookup f = some v ∧ Rp K F d v
  | [], _, _, _, _, e => by cases e
  | (g, d0) :: fs, xs, f, d, h, e => by
    obtain ⟨x, ys, rfl, h1, h2⟩ := h
    unfold List.lookup at e ⊢
    cases q : (f == g) with
    | true =>
      rw [q] at e
      cases e
      exact ⟨x, rfl, h1⟩
    | false =>
      rw [q] at e
      exact rpf_lookup h2 e
theorem rpf_none {F : Hp} : ∀ {fs : List (Str × D)} {xs : List (Str × V)} {f : Str}, RpF K F fs xs → fs.lookup f = none → xs.lookup f = none
  | [], xs, f, h, _ => by rw [show xs = [] from h]; rfl
  | (g, d0) :: fs, xs, f, h, e => by
    obtain ⟨x, ys, rfl, h1, h2⟩ := h
    unfold List.lookup at e ⊢
    cases q : (f == g) with
    | true => rw [q] at e; cases e
    | false => rw [q] at e; exact rpf_none h2 e
/-- w is an instance of the class at C with the fields fs; b: viewed -/
inductive Io (ka : Cells) : W → Addr → List (Str × D) → Bool → Prop where
  | v {D1 : Addr} {gs : List (Str × D)} : Io ka (.val (.ins D1 gs)) D1 gs false
  | w {D1 : Addr} {gs : List (Str × D)} : Io ka (.vw (.ins D1 gs)) D1 gs true
  | c {p D1 : Addr} {gs : List (Str × D)} (j : Nat) (h : ka[j]? = some (p, .ins D1 gs)) : Io ka (.val (.adr p)) D1 gs false
theorem rd_ins {H : Hp} {dx : Addr} {xs : List (Str × V)} (n : Nz F) (e : Exz F H) (h : Rd F a (.ins C dx xs)) : H a = some (.ins C dx xs) := by
  rcases h with h | ⟨o, h⟩
  · exact e.at h rfl
  · have := n a _ h
    cases this
/-- the built-in type of a value, by the abstract heap -/
inductive TyV (K : PySem.W.Frag) (H : Hp) : V → String → Prop where
  | non : TyV K H .non "NoneType"
  | bl {b : Bool} : TyV K H (.bl b) "bool"
  | int {b : Int} : TyV K H (.int b) "int"
  | str {b : Str} : TyV K H (.str b) "str"
  | lst {a : Addr} {xs : List V} (h : SqL K H a xs) : TyV K H (.ref a) "list"
  | tup {a : Addr} {xs : List V} (h : SqT K H a xs) : TyV K H (.ref a) "tuple"
theorem TyV.tyl {X : Cx} {y : V} {T : String} (h : TyV X.K H y T) : TyL X y H T := by
  cases h with
  | non => exact tyl_non
  | bl => exact tyl_bl
  | int => exact tyl_int
  | str => exact tyl_str
  | lst h => exact tyl_lst h
  | tup h => exact tyl_tup h
inductive TyE2 (K : PySem.W.Frag) (C : Addr) (H : Hp) : V → Prop where
  | ty {y : V} {T : String} (h : TyV K H y T) (s : subIn K (.type T) (.ref C) = some false) : TyE2 K C H y
  | own {a dx : Addr} {gs : List (Str × V)} (h : H a = some (.ins C dx gs)) : TyE2 K C H (.ref a)
abbrev rOwnT2 (K : PySem.W.Frag) (C : Addr) (op : Operator) (sp : Sp) (E : XK) : R2 := fun x y H Q => ∃ a dx fs T, x = .ref a ∧ H a = some (.ins C dx fs) ∧ TyV K H y T ∧ BoT K C op T ∧ sp [x, y] H Q E
theorem opr_imp {X : Cx} {f : Value → Value → Sem Value} {r r' : R2} (h : OpR X f r) (i : ∀ x y H Q, r' x y H Q → r x y H Q) : OpR X f r' := fun pins s sg H x y v u Q I rx ry q => h pins s sg H x y v u Q I rx ry (i _ _ _ _ q)
theorem opr_T {X : Cx} {op : Operator} {sp : Sp} {E : XK} (h : OpR X (binaryOp op) (rOwnT X C op sp E)) : OpR X (binaryOp op) (rOwnT2 X.K C op sp E) := opr_imp h fun x y H Q ⟨a, dx, fs, T, h1, h2, h3, h4, h5⟩ => ⟨a, dx, fs, T, h1, h2, h3.tyl, h4, h5⟩
theorem Io.get {v : V} (l : Io ka w C fs b) (e : EnF K B F ro ka ta sg H) (h : WOk K B F v w) : ∃ a dx xs, v = .ref a ∧ H a = some (.ins C dx xs) ∧ RpF K (if b then uni B F else F) fs xs := by
  cases l with
  | v =>
    obtain ⟨a, dx, xs, rfl, h1, h2⟩ := h
    exact ⟨a, dx, xs, rfl, rd_ins e.nz e.fz h1, h2⟩
  | w =>
    obtain ⟨a, dx, xs, rfl, h1, h2⟩ := h
    exact ⟨a, dx, xs, rfl, rd_ins (uni_nz e.nz) (uni_exz e.fz e.fr) h1, h2⟩
  | @c a C fs j hj =>
    obtain ⟨_, _, dx, xs, h1, h2⟩ := e.ce _ (List.mem_of_getElem? hj)
    exact ⟨a, dx, xs, h, h1, h2⟩
theorem Io.en {v : V} (l : Io ka w C fs b) (e : En K B F0 ro ka ta sg H) (h : (v, w) ∈ ta) : ∃ a dx xs, v = .ref a ∧ H a = some (.ins C dx xs) := by
  obtain ⟨F, g, e⟩ := e
  obtain ⟨a, dx, xs, h1, h2, _⟩ := l.get e (e.tm _ h)
  exact ⟨a, dx, xs, h1, h2⟩
/-- o.f, a field -/
theorem ev_fld {f : Str} {d : D} (h : EvD K te ro ka w k1) (l : Io k1 w C fs b) (c : Cls K C) (nf : NoAttr K C f) (hd : fs.lookup f = some d) : EvD K (tFld K te f) ro ka (part b d) k1 := fun B F0 ta sg H Q e q => h B F0 ta sg H _ e fun v H1 e1 => by
  obtain ⟨F, g, e1⟩ := e1
  obtain ⟨a, dx, xs, rfl, h1, h2⟩ := l.get e1 (e1.tm _ List.mem_cons_self)
  obtain ⟨v, h3, h4⟩ := rpf_lookup h2 hd
  refine ⟨a, C, dx, xs, v, rfl, h1, c, nf, h3, q v H1 ⟨F, g, ?_⟩⟩
  exact (e1.held (ta' := ta) fun p hp => List.mem_cons_of_mem _ hp).push (wok_part b h4)

/-! ### calls by contract: how they end -/
/-- the call ends with an exception of the class C1 -/
theorem sp_exc {Cc : Ct} {ws : List W} {out : Out → Cells → Prop} {vs : List V} {E : XK} {Q : VK} {C1 : Addr} {fs : List (Str × D)} (e : En K B F0 ro (ka ++ kr) (vs.zip ws ++ ta) sg H) (hl : vs.length = ws.length) (hC : Cc ws ka out) (ho : ∀ o k, out o k → o = .exc C1 fs ∧ k = k2)
    (q : ∀ dx H', En K B F0 ro (k2 ++ [(dx, .xd fs)] ++ kr) ta sg H' → E (.ref C1) (some dx) H') : spC K Cc vs H Q E := by
  obtain ⟨F, g, e⟩ := e
  refine ⟨off H ka, F, ws, ka, out, hC, hl, ⟨F, Gr.refl _ _, e.into (ro' := []) (sg' := []) (ta' := vs.zip ws) rfl (fun i w h => by simp at h) fun p hp => List.mem_append_left _ hp⟩, fun d' k v H' o _ => ?_, fun C fs k dx H' o ⟨F', g', e'⟩ => ?_, fun C k H' o _ => ?_⟩
  · have := (ho _ _ o).1
    cases this
  · obtain ⟨hd, rfl⟩ := ho _ _ o
    cases hd
    obtain ⟨g2, e2⟩ := e.back g' e' (tb := ta) fun p hp => .inl (List.mem_append_right _ hp)
    exact q dx H' ⟨F', g.trans g2, e2⟩
  · have := (ho _ _ o).1
    cases this
theorem sp_exc0 {Cc : Ct} {ws : List W} {out : Out → Cells → Prop} {vs : List V} {E : XK} {Q : VK} {C1 : Addr} (e : En K B F0 ro (ka ++ kr) (vs.zip ws ++ ta) sg H) (hl : vs.length = ws.length) (hC : Cc ws ka out) (ho : ∀ o k, out o k → o = .exc0 C1 ∧ k = k2)
    (q : ∀ H', En K B F0 ro (k2 ++ kr) ta sg H' → E (.ref C1) none H') : spC K Cc vs H Q E := by
  obtain ⟨F, g, e⟩ := e
  refine ⟨off H ka, F, ws, ka, out, hC, hl, ⟨F, Gr.refl _ _, e.into (ro' := []) (sg' := []) (ta' := vs.zip ws) rfl (fun i w h => by simp at h) fun p hp => List.mem_append_left _ hp⟩, fun d' k v H' o _ => ?_, fun C fs k dx H' o _ => ?_, fun C k H' o ⟨F', g', e'⟩ => ?_⟩
  · have := (ho _ _ o).1
    cases this
  · have := (ho _ _ o).1
    cases this
  · obtain ⟨hd, rfl⟩ := ho _ _ o
    cases hd
    obtain ⟨g2, e2⟩ := e.back g' e' (tb := ta) fun p hp => .inl (List.mem_append_right _ hp)
    exact q H' ⟨F', g.trans g2, e2⟩
/-- the call comes back with a new cell -/
theorem sp_new {Cc : Ct} {ws : List W} {out : Out → Cells → Prop} {vs : List V} {E : XK} {Q : VK} {m : Nd} (e : En K B F0 ro (ka ++ kr) (vs.zip ws ++ ta) sg H) (hl : vs.length = ws.length) (hC : Cc ws ka out) (ho : ∀ o k, out o k → ∃ a, o = .ret (.adr a) ∧ k = k2 ++ [(a, m)])
    (q : ∀ a H', En K B F0 ro (k2 ++ kr ++ [(a, m)]) ta sg H' → Q (.ref a) H') : spC K Cc vs H Q E := by
  obtain ⟨F, g, e⟩ := e
  refine ⟨off H ka, F, ws, ka, out, hC, hl, ⟨F, Gr.refl _ _, e.into (ro' := []) (sg' := []) (ta' := vs.zip ws) rfl (fun i w h => by simp at h) fun p hp => List.mem_append_left _ hp⟩, fun d' k v H' o ⟨F', g', e'⟩ => ?_, fun C fs k dx H' o _ => ?_, fun C k H' o _ => ?_⟩
  · obtain ⟨a, hd, rfl⟩ := ho _ _ o
    cases hd
    have hv : v = .ref a := e'.tm (v, .val (.adr a)) List.mem_cons_self
    subst hv
    obtain ⟨g2, e2⟩ := e.back g' e' (tb := ta) fun p hp => .inl (List.mem_append_right _ hp)
    refine q a H' ⟨F', g.trans g2, e2.perm ?_⟩
    rw [List.append_assoc, List.append_assoc]
    exact List.Perm.append_left _ List.perm_append_comm
  · obtain ⟨a, z, _⟩ := ho _ _ o
    cases z
  · obtain ⟨a, z, _⟩ := ho _ _ o
    cases z
theorem evn_call {Cc : Ct} {ws : List W} {out : Out → Cells → Prop} {E : XK} {m : Nd} (kr : Cells) (ha : EvA K tr ro ka ws (k1 ++ kr)) (hC : Cc ws k1 out) (ho : ∀ o k, out o k → ∃ a, o = .ret (.adr a) ∧ k = k2 ++ [(a, m)]) : EvN K (tCall (spC K Cc) [] E tr) ro ka m (k2 ++ kr) := fun B F0 ta sg H Q e q =>
  ha B F0 ta sg H _ e fun vs H1 hl e1 => by
    rw [List.append_nil]
    exact sp_new e1 hl hC ho q
/-- o.f, a property -/
theorem ev_prop {Cc : Ct} {out : Out → Cells → Prop} {E : XK} {d : D} (kr : Cells) (h : EvD K te ro ka w (k1 ++ kr)) (l : Io (k1 ++ kr) w C fs b) (hC : Cc [w] k1 out) (ho : ∀ o k, out o k → o = .ret d ∧ k = k1) : EvD K (tProp C (spC K Cc) [] E te) ro ka (.val d) (k1 ++ kr) := fun B F0 ta sg H Q e q => h B F0 ta sg H _ e fun u H1 e1 => by
  obtain ⟨a, dx, xs, rfl, ha⟩ := l.en e1 List.mem_cons_self
  exact ⟨a, dx, xs, rfl, ha, sp_ret (vs := [.ref a]) (ws := [w]) (ta := ta) e1 rfl hC ho q⟩
/-- own == own, own != own, or a built-in's value -/
inductive Eo (ka : Cells) : W → Addr → Prop where
  | io {u : W} {D1 : Addr} {gs : List (Str × D)} {b1 : Bool} (l : Io ka u D1 gs b1) : Eo ka u D1
  | non {D1 : Addr} : Eo ka (.val .non) D1
  | bl {b1 : Bool} {D1 : Addr} : Eo ka (.val (.bl b1)) D1
  | int {b1 : Int} {D1 : Addr} : Eo ka (.val (.int b1)) D1
  | str {b1 : Str} {D1 : Addr} : Eo ka (.val (.str b1)) D1
  | sq {u : W} {t b1 : Bool} {ds : List D} {D1 : Addr} (l : Lk ka u t ds b1) : Eo ka u D1
/-- the built-in types, that the class goes ahead of -/
def EqT (K : PySem.W.Frag) (C : Addr) : Prop := ∀ T ∈ ["NoneType", "bool", "int", "str", "list", "tuple"], subIn K (.type T) (.ref C) = some false
theorem Eo.at {u : V} (hT : EqT K C) (l : Eo ka y C) (e : En K B F0 ro ka ta sg H) (h : (u, y) ∈ ta) : TyE2 K C H u := by
  cases l with
  | io l =>
    obtain ⟨a, dx, xs, rfl, ha⟩ := l.en e h
    exact .own ha
  | non =>
    obtain rfl := e.tm_non h
    exact .ty .non (hT _ (by simp))
  | bl =>
    obtain rfl := e.tm_bl h
    exact .ty .bl (hT _ (by simp))
  | int =>
    obtain rfl := e.tm_int h
    exact .ty .int (hT _ (by simp))
  | str =>
    obtain rfl := e.tm_str h
    exact .ty .str (hT _ (by simp))
  | @sq x t ds b C l =>
    obtain ⟨F, g, e⟩ := e
    obtain ⟨a, xs, rfl, h1, _⟩ := l.get e (e.tm _ h)
    cases t with
    | false => exact .ty (.lst (.inl h1)) (hT _ (by simp))
    | true => exact .ty (.tup h1) (hT _ (by simp))
/-- own << other and the like: the other of a built-in type -/
structure TyWf (K : PySem.W.Frag) (C : Addr) (op : Operator) (ka : Cells) (y : W) : Prop where
  at_ : ∀ B F0 ro ta sg H u, En K B F0 ro ka ta sg H → (u, y) ∈ ta → ∃ T, TyV K H u T ∧ BoT K C op T
theorem tyw_tup {op : Operator} {w : W} {ds : List D} {b : Bool} (l : Lk ka w true ds b) (t : BoT K C op "tuple") : TyWf K C op ka w := ⟨fun B F0 ro ta sg H u e h => by
  obtain ⟨F, g, e⟩ := e
  obtain ⟨a, xs, rfl, h1, _⟩ := l.get e (e.tm _ h)
  exact ⟨_, .tup h1, t⟩⟩
end
end DL

/-! DH: making objects, isinstance, conversions, exceptions by data (own work). -/
namespace DL
open PySem L2 PySem.W

section
variable {K : PySem.W.Frag} {B F F0 : Hp} {ro : Ro} {ka k1 k2 k3 kr : Cells} {ta : List (V × W)} {sg : L2.St} {H H' : Hp} {te tf tg : TE} {tr : TA} {tt : TT} {w x y z : W} {n : Nd} {C dx a : Addr} {fs : List (Str × D)} {b : Bool} {P : L2.St → Hp → Prop}

/-! ### an instance cell, frozen -/
theorem En.freeze_i (e : En K B F0 ro (ka ++ [(a, .ins C fs)]) ta sg H) : En K B F0 ro ka ((.ref a, .val (.ins C fs)) :: ta) sg H := by
  obtain ⟨F, g, e⟩ := e
  obtain ⟨fa, ba, dx, xs, ha, rl⟩ := e.ce (a, .ins C fs) (by simp)
  have gg : Gr B F (upd F a (.ins C dx xs)) := ⟨Sub.new fa, fun b h1 h2 => by
    have ne : b ≠ a := fun q => h2 (q ▸ ba)
    rw [upd_ne ne]
    exact h1⟩
  have nd2 := e.nd
  rw [List.map_append, List.nodup_append] at nd2
  refine ⟨upd F a (.ins C dx xs), g.trans gg, ⟨fun b u h => ?_, fun b u h => ?_, e.fr, nd2.1, fun q hq => ?_, e.ln, fun i w h => ?_, fun q hq => ?_⟩⟩
  · by_cases hb : b = a
    · subst hb; rw [upd_same] at h; cases h; rfl
    · rw [upd_ne hb] at h; exact e.nz b u h
  · by_cases hb : b = a
    · subst hb; rw [upd_same] at h; cases h; exact .inl ha
    · rw [upd_ne hb] at h; exact e.fz b u h
  · obtain ⟨h1, h2, h3⟩ := e.ce q (List.mem_append_left _ hq)
    have nq : q.1 ≠ a := fun z => nd2.2.2 q.1 (List.mem_map.mpr ⟨q, hq, rfl⟩) a (by simp) z
    exact ⟨by rw [upd_ne nq]; exact h1, h2, ndok_gr e.nz gg h3⟩
  · obtain ⟨v, h1, h2⟩ := e.sl i w h
    exact ⟨v, h1, wok_gr e.nz gg h2⟩
  · rcases List.mem_cons.mp hq with rfl | hq
    · exact ⟨a, dx, xs, rfl, .inl upd_same, RpF.mono gg.sub.exz e.nz _ _ rl⟩
    · exact wok_gr e.nz gg (e.tm q hq)
theorem EvN.ins {fs : List (Str × D)} (h : EvN K te ro ka (.ins C fs) k1) : EvD K te ro ka (.val (.ins C fs)) k1 := fun B F0 ta sg H Q e q => h B F0 ta sg H Q e fun a H1 e1 => q _ _ e1.freeze_i
/-- fewer cells -/
theorem En.less (e : En K B F0 ro ka ta sg H) (h : k1.Sublist ka) : En K B F0 ro k1 ta sg H := let ⟨F, g, q⟩ := e; ⟨F, g, q.cells h⟩
theorem EvD.less (h : EvD K te ro ka w k1) (s : k2.Sublist k1) : EvD K te ro ka w k2 := fun B F0 ta sg H Q e q => h B F0 ta sg H Q e fun v H1 e1 => q v H1 (e1.less s)
theorem Gp.less (h : Gp K B F0 ta P ro k1) (s : k1.Sublist ka) : Gp K B F0 ta P ro ka := fun sg H e => h sg H (e.less s)
/-! ### C(e, ..) -/
/-- C(..): __init__ by contract; a new cell -/
theorem evn_make {Cc : Ct} {ws : List W} {E : XK} {m : Nd} (ha : EvA K tr ro ka ws k1)
    (hC : ∀ a, ∃ out, Cc (.val (.adr a) :: ws) (k1 ++ [(a, .ins C [])]) out ∧ ∀ o k, out o k → o = .ret .non ∧ k = k2 ++ [(a, m)]) : EvN K (tMake C (spC K Cc) [] E tr) ro ka m k2 := fun B F0 ta sg H Q e q =>
  ha B F0 ta sg H _ e fun vs H1 hl e1 => by
    intro x dx hx hd hne
    rw [List.append_nil]
    obtain ⟨F, g, e1⟩ := e1
    obtain ⟨e2, g2⟩ := e1.lay (o := .own x) hd rfl
    have hx2 : upd H1 dx (.own x) x = none := by rw [upd_ne (Ne.symm hne)]; exact hx
    have e3 := e2.cell (o := .ins C dx []) hx2 (n := .ins C []) ⟨dx, [], upd_same, rfl⟩
    have e4 := e3.push (v := .ref x) (w := .val (.adr x)) rfl
    obtain ⟨out, hC, ho⟩ := hC x
    have e5 : En K B F0 ro ((k1 ++ [(x, .ins C [])]) ++ []) ((V.ref x :: vs).zip (W.val (.adr x) :: ws) ++ ta) sg (upd (upd H1 dx (.own x)) x (.ins C dx [])) := by
      rw [List.append_nil]
      exact ⟨_, g.trans g2, e4⟩
    refine sp_ret (k2 := k2 ++ [(x, m)]) e5 (by rw [List.length_cons, List.length_cons, hl]) hC ho fun v H' e6 => ?_
    rw [List.append_nil] at e6
    exact ⟨e6.tm_non List.mem_cons_self, q x H' e6.pop⟩
/-- self.f = e, self a cell -/
def putD (f : Str) (v : D) : List (Str × D) → List (Str × D)
  | [] => [(f, v)]
  | (g, x) :: r => if g = f then (g, v) :: r else (g, x) :: putD f v r
theorem rpf_put {F : Hp} {f : Str} {v : V} {d : D} (hv : Rp K F d v) : ∀ {fs : List (Str × D)} {xs : List (Str × V)}, RpF K F fs xs → RpF K F (putD f d fs) (putF f v xs)
  | [], xs, h => by rw [show xs = [] from h]; exact ⟨v, [], rfl, hv, rfl⟩
  | (g, d0) :: fs, xs, h => by
    obtain ⟨x, ys, rfl, h1, h2⟩ := h
    unfold putD putF
    by_cases q : g = f
    · rw [if_pos q, if_pos q]
      exact ⟨v, ys, rfl, hv, h2⟩
    · rw [if_neg q, if_neg q]
      exact ⟨x, _, rfl, h1, rpf_put hv h2⟩
theorem rpf_len {F : Hp} : ∀ {fs : List (Str × D)} {xs : List (Str × V)}, RpF K F fs xs → xs.length = fs.length
  | [], xs, h => by rw [show xs = [] from h]; rfl
  | _ :: fs, xs, h => by
    obtain ⟨x, ys, rfl, _, h2⟩ := h
    rw [List.length_cons, List.length_cons, rpf_len h2]
theorem g_fld {f : Str} {d : D} {j : Nat} {De : Ends} (hv : EvD K tf ro ka (.val d) k1) (ho : EvD K te ro k1 (.val (.adr a)) k2) (hj : k2[j]? = some (a, .ins C fs)) (c : Cls K C) (nf : NoAttr K C f) (hz : fs.length < 900)
    (k : Gp K B F0 ta De.nx ro (k2.set j (a, .ins C (putD f d fs)))) : Gp K B F0 ta (sFld K te tf f De) ro ka := fun sg H e => hv B F0 ta sg H _ e fun v H1 e1 => ho B F0 _ sg H1 _ e1 fun u H2 e2 => by
  have hu := e2.tm_adr List.mem_cons_self
  subst hu
  obtain ⟨F, g, e2⟩ := e2
  obtain ⟨_, _, dx, xs, hx, rx⟩ := e2.ce _ (List.mem_of_getElem? hj)
  have hv := e2.tm (v, .val d) (List.mem_cons_of_mem _ List.mem_cons_self)
  refine ⟨a, C, dx, xs, rfl, hx, c, nf, by rw [rpf_len rx]; omega, k _ _ ⟨F, g, ?_⟩⟩
  exact (e2.write (o := .ins C dx (putF f v xs)) (n' := .ins C (putD f d fs)) hj ⟨dx, _, upd_same, rpf_put hv rx⟩).held fun p hp => List.mem_cons_of_mem _ (List.mem_cons_of_mem _ hp)
theorem q_fld {f : Str} {d : D} {j : Nat} {De : Ends} {u : TS} (hv : EvD K tf ro ka (.val d) k1) (ho : EvD K te ro k1 (.val (.adr a)) k2) (hj : k2[j]? = some (a, .ins C fs)) (c : Cls K C) (nf : NoAttr K C f) (hz : fs.length < 900)
    (k : Gp K B F0 ta (u De) ro (k2.set j (a, .ins C (putD f d fs)))) : Gp K B F0 ta (tSeq (sFld K te tf f) u De) ro ka := g_fld (De := { De with nx := u De }) hv ho hj c nf hz k

/-! ### isinstance -/
/-- the class facts for isinstance -/
structure ClsI (K : PySem.W.Frag) (C : Addr) : Prop where
  cl : Cls K C
  ha : findIn K (.ref C) "__class__" = some (some (.builtin "object.__class__"))
  hn : specialIn K (.builtin "object.__class__") "__get__" = some (some (.builtin "getset_descriptor.__get__"))
  htk : takesIn K (.builtin "object.__class__") = some true
  hm : mroIn K C (.type "object") = some true
/-- the type of what w stands for -/
inductive Tw (K : PySem.W.Frag) (ka : Cells) : W → Value → Prop where
  | non : Tw K ka (.val .non) (.type "NoneType")
  | bl {i : Bool} : Tw K ka (.val (.bl i)) (.type "bool")
  | int {i : Int} : Tw K ka (.val (.int i)) (.type "int")
  | str {i : Str} : Tw K ka (.val (.str i)) (.type "str")
  | lst {u : W} {ds : List D} {b1 : Bool} (l : Lk ka u false ds b1) : Tw K ka u (.type "list")
  | tup {u : W} {ds : List D} {b1 : Bool} (l : Lk ka u true ds b1) : Tw K ka u (.type "tuple")
  | io {u : W} {D1 : Addr} {gs : List (Str × D)} {b1 : Bool} (l : Io ka u D1 gs b1) (c : ClsI K D1) : Tw K ka u (.ref D1)
theorem Tw.at {t : Value} {v : V} (l : Tw K ka w t) (e : En K B F0 ro ka ta sg H) (h : (v, w) ∈ ta) : TyX K H v t := by
  cases l with
  | non => obtain rfl := e.tm_non h; exact .base .non
  | bl => obtain rfl := e.tm_bl h; exact .base (.bl _)
  | int => obtain rfl := e.tm_int h; exact .base (.int _)
  | str => obtain rfl := e.tm_str h; exact .base (.str _)
  | lst l =>
    obtain ⟨F, g, e⟩ := e
    obtain ⟨a, xs, rfl, h1, _⟩ := l.get e (e.tm _ h)
    rcases (show Rd H a (.lst xs) from h1) with h1 | ⟨o, h1⟩
    · exact .base (.lst h1)
    · exact .base (.frz h1)
  | tup l =>
    obtain ⟨F, g, e⟩ := e
    obtain ⟨a, xs, rfl, h1, _⟩ := l.get e (e.tm _ h)
    rcases (show SqT K H a xs from h1) with h1 | h1
    · rcases h1 with h1 | ⟨o, h1⟩
      · exact .base (.tup h1)
      · exact .fTuple h1
    · obtain ⟨o, its, n, q1, q2, _⟩ := h1
      exact .kTuple q1 q2
  | io l c =>
    obtain ⟨a, dx, xs, rfl, ha⟩ := l.en e h
    exact .base (.ins ha c.cl c.ha c.hn c.htk c.hm)
theorem rc_isi {T : String} {t : Value} {b : Bool} (l : Tw K ka w t) (h : kitOne K t (.type T) = some b) : RcD K (rIsi K) ka [w, .val (.ty T)] (.val (.bl b)) := fun B F0 ro ta sg H us Q e hl hm q => by
  obtain ⟨u, v, rfl, h1, h2⟩ := zip_two hl hm
  have hv : v = .ty T := e.tm_ty h2
  subst hv
  exact ⟨u, .ty T, t, .type T, b, rfl, .ty T, l.at e h1, h, q _ _ (e.push_imm fun _ => rfl)⟩
theorem rc_isiC {t : Value} {C1 : Addr} {b : Bool} (l : Tw K ka w t) (h : kitOne K t (.ref C1) = some b) : RcD K (rIsi K) ka [w, .val (.adr C1)] (.val (.bl b)) := fun B F0 ro ta sg H us Q e hl hm q => by
  obtain ⟨u, v, rfl, h1, h2⟩ := zip_two hl hm
  obtain rfl := e.tm_adr h2
  exact ⟨u, .ref C1, t, .ref C1, b, rfl, .own C1, l.at e h1, h, q _ _ (e.push_imm fun _ => rfl)⟩
end
end DL

/-! DJ: raise, try, by data; conversions (own work). -/
namespace DL
open PySem L2 PySem.W

/-! ### own exception classes -/
/-- the class object of an own error: its kind, its line of classes, its slots -/
def lineOk (C : Addr) (cd : ClassData) : Bool := !cd.hasDel && (cd.hasDict && (match cd.mro with
  | x :: r => x == .ref C && PySem.HandSPX.refsVE r
  | [] => false))
def slotsOk (sl : Array (Option Value)) : Bool := sl.size == 6 && sl[4]? == some (some (.builtin "ValueError.__new__"))
def errObj (C : Addr) (o : Obj) : Bool := o.cls == .type "type" && (slotsOk o.slots && (match o.data with
  | .cls cd => lineOk C cd
  | _ => false))
def oexB (K : PySem.W.Frag) (C : Addr) : Bool := (K.lookup C).any (errObj C) && (decide (findIn K (.ref C) "__setattr__" = some (some (.builtin "object.__setattr__"))) && (decide (subIn K (.ref C) (.type "BaseException") = some true) && (decide (typeIn K (.ref C) = some (.type "type")) && keepIn K (.ref C))))
theorem slots_six {sl : Array (Option Value)} (h : slotsOk sl = true) : ∃ a b c d e, sl = #[a, b, c, d, some (.builtin "ValueError.__new__"), e] := by
  obtain ⟨h1, h2⟩ := Bool.and_eq_true_iff.mp h
  have h1 := beq_iff_eq.mp h1
  have h2 := beq_iff_eq.mp h2
  obtain ⟨l⟩ := sl
  match l, h1, h2 with
  | [a, b, c, d, x, e], _, h2 =>
    have : x = some (.builtin "ValueError.__new__") := by simpa using h2
    exact ⟨a, b, c, d, e, by rw [this]⟩
theorem oexB_ok {K : PySem.W.Frag} {C : Addr} (h : oexB K C = true) : OexC K C := by
  have h := Bool.and_eq_true_iff.mp h
  have r1 := Bool.and_eq_true_iff.mp h.2
  have r2 := Bool.and_eq_true_iff.mp r1.2
  have r3 := Bool.and_eq_true_iff.mp r2.2
  refine ⟨?_, of_decide_eq_true r1.1, of_decide_eq_true r2.1, of_decide_eq_true r3.1, r3.2⟩
  obtain ⟨o, ho, h1⟩ : ∃ o, K.lookup C = some o ∧ errObj C o = true := by
    cases q : K.lookup C with
    | none => have := h.1; rw [q] at this; cases this
    | some o => have := h.1; rw [q] at this; exact ⟨o, rfl, this⟩
  have k1 := Bool.and_eq_true_iff.mp h1
  have k2 := Bool.and_eq_true_iff.mp k1.2
  have hc := beq_iff_eq.mp k1.1
  obtain ⟨s0, s1, s2, s3, s5, hs⟩ := slots_six k2.1
  obtain ⟨oc, od, dt, sl⟩ := o
  cases dt with
  | cls cd =>
    have l1 := Bool.and_eq_true_iff.mp (show (!cd.hasDel && (cd.hasDict && _)) = true from k2.2)
    have l2 := Bool.and_eq_true_iff.mp l1.2
    have hdel : cd.hasDel = false := by simpa using l1.1
    have hdict : cd.hasDict = true := l2.1
    cases hm : cd.mro with
    | nil => have := l2.2; rw [hm] at this; cases this
    | cons x r =>
      have l3 : (x == .ref C && PySem.HandSPX.refsVE r) = true := by have := l2.2; rw [hm] at this; exact this
      have l4 := Bool.and_eq_true_iff.mp l3
      have hx := beq_iff_eq.mp l4.1
      refine ⟨cd.name, cd.qualname, cd.ns, cd.bases, r, cd.slotNames, cd.subclasses, cd.abstract, cd.collection, od, s0, s1, s2, s3, s5, ?_, l4.2⟩
      rw [ho]
      have hc : oc = .type "type" := hc
      have hs : sl = _ := hs
      subst hc hs hx
      cases cd
      cases hm
      cases hdel
      cases hdict
      rfl
  | _ => cases k2.2
/-- what a raised own error with fields asks of the text -/
structure Xc (K : PySem.W.Frag) (C : Addr) : Prop where
  oex : OexC K C
  xf : XfC K C
def xcB (K : PySem.W.Frag) (C : Addr) : Bool := oexB K C && xfB K C
theorem xcB_ok {K : PySem.W.Frag} {C : Addr} (h : xcB K C = true) : Xc K C := let ⟨a, b⟩ := Bool.and_eq_true_iff.mp h; ⟨oexB_ok a, xfB_ok b⟩
/-- __init__(self, x): self.f = x -/
def spI1 (K : PySem.W.Frag) (C : Addr) (f : Str) : Sp := fun vs H Q _ => ∃ a y, vs = [.ref a, y] ∧ OexC K C ∧ findIn K (.ref C) f = some none ∧ H a = some (exo a C none) ∧
  ∀ d, H d = none → d ≠ a → Q .non (upd (upd H d (exd d [(f, y)])) a (exo a C (some d)))
theorem init1_ok {P : Program} {w : World} {K : PySem.W.Frag} {mg : Str → Option Value} {base : Heap} {f C : Addr} {fd : FuncData} {nm qual x fld : Str} {params : Arguments} {body : List Stmt} {scope : Scope} {k : Nat} {CX : CXT}
    (F : FunD K nm qual params body scope [] [] f fd) (S : FnScope ["self", x] ["self", x] scope)
    (h : ∀ (cdv : Value) (A : Around) (outer : List Env) (s : Shared) (H : Hp) (E : XK), PSs (cxOf CX P w K mg base ["self", x] qual scope f cdv A outer s H E) body (tOst K fld (tVar 0) (tVar 1))) : FnOk P w K mg base CX (k + 1) f fd ["self", x] (spI1 K C fld) :=
  F.ok S (fun vs H Q E ⟨a, y, e, _⟩ => by rw [e]; rfl) fun cdv A outer s H vs Q E hr ⟨a, y, e, T, hno, ha, q⟩ => ⟨_, h cdv A outer s H E, by
    subst e
    exact ⟨y, rfl, .ref a, rfl, a, C, rfl, T, hno, .inl ⟨ha, q⟩⟩⟩
/-- an own error class made without arguments: a new object, no fields -/
theorem pmk_zero {X : Cx} {C : Addr} {mros : List Value} {base new ini : String} {x : Str} {p pos : Pos} (facts : PySem.ExcBaseFacts base new ini mros) (known : excIn X.K C mros new = true) (here : X.mg x = some (.ref C)) (kept : keepIn X.K (.ref C) = true) (up : Raises X (.ref C)) (glob : Gl X x)
    (plain : (x == ("__debug__" : Str)) = false := by decide) : PMk X (.Call (.Name x p) [] [] pos) (fun _ H Q => Q (.ref C) none H) := fun pins s sg H Q I want => by
  obtain ⟨mro, ns, cn, qn, bases, dct, slots, subs, abst, coll, dd, a0, a1, a2, a3, a5, mN, look, space, noInit, tail⟩ := exc_obj I.kIn known
  have made := PySem.wpAny_call_exc_subT (prog := X.prog) (w := X.w) (A := X.A) (Q := MkP X pins sg Q) (E := X.xe) (rest := []) facts tail look space noInit (fun h' e new => mk_of (I.tok _) new up want (I.hok.gone new.new)) (Nat.zero_le _)
  exact wpAny_Call_Name_kw (ld_glob (pos := p) (E := X.xe) I glob here (callWith_K0 (first := []) I.kIn kept made) plain)

section
variable {K : PySem.W.Frag} {B F F0 : Hp} {ro : Ro} {ka k1 k2 k3 kr : Cells} {ta : List (V × W)} {sg : L2.St} {H H' : Hp} {te tf tg : TE} {tr : TA} {tt : TT} {w x y z : W} {n : Nd} {C dx a : Addr} {fs : List (Str × D)} {b : Bool} {P : L2.St → Hp → Prop}
theorem mk1_of {fld : Str} {d : D} {Q : XK} (ha : EvA K tr ro ka [.val d] k1) (T : OexC K C) (hno : findIn K (.ref C) fld = some none) (e : En K B F0 ro ka ta sg H)
    (q : ∀ dx H', En K B F0 ro (k1 ++ [(dx, .xd [(fld, d)])]) ta sg H' → Q (.ref C) (some dx) H') : tMkO C (spI1 K C fld) [] tr sg H Q := ha B F0 ta sg H _ e fun vs H1 hl e1 => by
  match vs, hl with
  | [v], _ =>
    refine ⟨by show 1 ≤ 1000; omega, fun a hna => ⟨a, v, rfl, T, hno, upd_same, fun dd hd hne => ⟨rfl, dd, [(fld, v)], upd_same, ?_, ?_, ?_⟩⟩⟩
    · rw [upd_ne hne, upd_same]
    · rwa [upd_ne hne] at hd
    · have hd1 : H1 dd = none := by rwa [upd_ne hne] at hd
      have eH : upd (del (upd (upd (upd H1 a (exo a C none)) dd (exd dd [(fld, v)])) a (exo a C (some dd))) a) dd (.xd [(fld, v)]) = upd H1 dd (.xd [(fld, v)]) := by
        funext b
        by_cases h1 : b = dd
        · subst h1
          rw [upd_same, upd_same]
        · rw [upd_ne h1, upd_ne h1]
          by_cases h2 : b = a
          · subst h2
            rw [del_same, hna]
          · rw [del_ne h2, upd_ne h2, upd_ne h1, upd_ne h2]
      rw [eH]
      obtain ⟨F, g, e1⟩ := e1
      have hv : WOk K B F v (.val d) := e1.tm _ (List.mem_append_left _ List.mem_cons_self)
      exact q dd _ ⟨F, g, (e1.cell (o := .xd [(fld, v)]) hd1 (n := .xd [(fld, d)]) ⟨_, upd_same, v, [], rfl, hv, rfl⟩).held fun p hp => List.mem_append_right _ hp⟩
theorem En.leaveX (e : En K B F0 ro ka ta sg H) : En K B F0 [] ka [] [] H :=
  let ⟨F, g, q⟩ := e
  ⟨F, g, (q.frame (ro' := []) (sg' := []) rfl fun i w h => by simp at h).held fun p hp => by cases hp⟩
theorem g_raise1 {fld : Str} {d : D} {out : Out → Cells → Prop} {E : XK} (hX : RxOk K B F0 out E) (ha : EvA K tr ro ka [.val d] k1) (T : OexC K C) (hno : findIn K (.ref C) fld = some none) (o : out (.exc C [(fld, d)]) k1) :
    Gp K B F0 ta (fun σ H => tMkO C (spI1 K C fld) [] tr σ H fun cls dd H' => E cls dd H') ro ka := fun sg H e => mk1_of ha T hno e fun dx H' e' => hX.1 C _ k1 dx H' o e'.leaveX
theorem g_raise0 {out : Out → Cells → Prop} {E : XK} (hX : RxOk K B F0 out E) (o : out (.exc0 C) ka) : Gp K B F0 ta (fun σ H => E (.ref C) none H) ro ka := fun sg H e => hX.2 C ka H o e.leaveX

/-! ### try -/
/-- what is wished of an exception, whatever the slots hold -/
def XW (n : Nat) (Wx : WX) : XK := fun cls d H => ∀ σ : L2.St, σ.length = n → Wx cls d σ H
theorem pass_xw {X : Cx} {Wx : WX} (tk : Takes X Wx) : Passes (L2.CX X.prog X.w) X (XW X.N.length Wx) := fun _ σ _ _ e s' I c => tk e s' (XE.of_call I (fun _ _ _ h => h σ I.len) c)
/-- e.f of the exception -/
theorem ev_xf {f : Str} {d : D} {j : Nat} (he : EvD K te ro ka (.val (.adr a)) k1) (hj : k1[j]? = some (dx, .xd fs)) (hd : fs.lookup f = some d) : EvD K (tXf a (.ref C) (some dx) C f te) ro ka (.val d) k1 := fun B F0 ta sg H Q e q => he B F0 ta sg H _ e fun v H1 e1 => by
  have hv := e1.tm_adr List.mem_cons_self
  subst hv
  obtain ⟨F, g, e1⟩ := e1
  obtain ⟨_, _, xs, hx, rx⟩ := e1.ce _ (List.mem_of_getElem? hj)
  obtain ⟨v, l, rv⟩ := rpf_lookup rx hd
  exact ⟨rfl, rfl, dx, xs, v, rfl, hx, l, q v H1 ⟨F, g, (e1.held (ta' := ta) fun p hp => List.mem_cons_of_mem _ hp).push rv⟩⟩

/-! ### conversions -/
def rTupU (K : PySem.W.Frag) : List V → Hp → VK → Prop := fun xs H Q => ∃ p ys, xs = [.ref p] ∧ ((SqL K H p ys ∧ ∀ l, H l = none → Q (.ref l) (upd H l (.tup ys))) ∨ (SqT K H p ys ∧ Q (.ref p) H))
def rLstU (K : PySem.W.Frag) : List V → Hp → VK → Prop := fun xs H Q => ∃ p ys, xs = [.ref p] ∧ (SqL K H p ys ∨ SqT K H p ys) ∧ ∀ l, H l = none → Q (.ref l) (upd H l (.lst ys))
def rIntU : List V → Hp → VK → Prop := fun xs H Q => (∃ i, xs = [.int i] ∧ Q (.int i) H) ∨ ∃ k, xs = [.bl k] ∧ Q (.int (if k then 1 else 0)) H
theorem call_tupU {X : Cx} : CallR X (.type "tuple") (rTupU X.K) := call_tuple_of
theorem call_lstU {X : Cx} : CallR X (.type "list") (rLstU X.K) := call_list_of
theorem call_intU {X : Cx} : CallR X (.type "int") rIntU := call_int1
theorem rpl_imm {F G : Hp} : ∀ {ds : List D} {xs : List V}, ds.all imm = true → RpL K F ds xs → RpL K G ds xs
  | [], _, _, h => h
  | d :: ds, xs, hi, h => by
    obtain ⟨x, ys, rfl, h1, h2⟩ := h
    rw [List.all_cons, Bool.and_eq_true] at hi
    exact ⟨x, ys, rfl, imm_any hi.1 h1, rpl_imm hi.2 h2⟩
/-- a sequence's items may be told as frozen -/
def SqF (b : Bool) (ds : List D) : Prop := b = false ∨ ds.all imm = true
theorem SqF.to {ds : List D} {xs : List V} (h : SqF b ds) (r : RpL K (if b then uni B F else F) ds xs) : RpL K F ds xs := by
  rcases h with h | h
  · subst h; exact r
  · exact rpl_imm h r
theorem rc_tupL {ds : List D} (l : Lk ka w false ds b) (hf : SqF b ds) : RcD K (rTupU K) ka [w] (.val (.tup ds)) := fun B F0 ro ta sg H us Q e hl hm q => by
  obtain ⟨u, rfl, hu⟩ := zip_one hl hm
  obtain ⟨F, g, e⟩ := e
  obtain ⟨a, xs, rfl, h1, h2⟩ := l.get e (e.tm _ hu)
  have r2 := hf.to h2
  refine ⟨a, xs, rfl, .inl ⟨.inl h1, fun p hp => q _ _ ?_⟩⟩
  obtain ⟨e4, g4⟩ := e.lay (o := .tup xs) hp rfl
  exact ⟨_, g.trans g4, e4.push ⟨p, _, rfl, .inl (.inl upd_same), RpL.mono g4.sub.exz e.nz _ _ r2⟩⟩
theorem rcn_lst {t : Bool} {ds : List D} (l : Lk ka w t ds b) (hf : SqF b ds) : RcN K (rLstU K) ka [w] (.lst ds) := fun B F0 ro ta sg H us Q e hl hm q => by
  obtain ⟨u, rfl, hu⟩ := zip_one hl hm
  obtain ⟨F, g, e⟩ := e
  obtain ⟨a, xs, rfl, h1, h2⟩ := l.at e (e.tm _ hu)
  have r2 := hf.to h2
  exact ⟨a, xs, rfl, h1, fun p hp => q p _ ⟨F, g, e.cell (o := .lst xs) hp (n := .lst ds) ⟨_, upd_same, r2⟩⟩⟩
theorem rc_int {i : Int} : RcD K rIntU ka [.val (.int i)] (.val (.int i)) := fun B F0 ro ta sg H us Q e hl hm q => by
  obtain ⟨u, rfl, hu⟩ := zip_one hl hm
  obtain rfl := e.tm_int hu
  exact .inl ⟨i, rfl, q _ _ (e.push_imm fun _ => rfl)⟩
theorem rpl_bls {F : Hp} : ∀ {bs : List Bool} {xs : List V}, RpL K F (bs.map D.bl) xs → xs = bs.map V.bl
  | [], _, h => h
  | b :: bs, xs, h => by
    obtain ⟨x, ys, rfl, h1, h2⟩ := h
    rw [show x = V.bl b from h1, rpl_bls h2]
    rfl
theorem rc_all {bs : List Bool} (l : Lk ka w false (bs.map D.bl) b) : RcD K (rAll K) ka [w] (.val (.bl (bs.all id))) := fun B F0 ro ta sg H us Q e hl hm q => by
  obtain ⟨u, rfl, hu⟩ := zip_one hl hm
  obtain ⟨F, g, e⟩ := e
  obtain ⟨a, xs, rfl, h1, h2⟩ := l.get e (e.tm _ hu)
  have := rpl_bls h2
  subst this
  exact ⟨a, bs, rfl, .inl h1, q _ _ ⟨F, g, e.push rfl⟩⟩
theorem rc_any {bs : List Bool} (l : Lk ka w false (bs.map D.bl) b) : RcD K (rAny K) ka [w] (.val (.bl (bs.any id))) := fun B F0 ro ta sg H us Q e hl hm q => by
  obtain ⟨u, rfl, hu⟩ := zip_one hl hm
  obtain ⟨F, g, e⟩ := e
  obtain ⟨a, xs, rfl, h1, h2⟩ := l.get e (e.tm _ hu)
  have := rpl_bls h2
  subst this
  exact ⟨a, bs, rfl, .inl h1, q _ _ ⟨F, g, e.push rfl⟩⟩
/-- a sign in a text -/
theorem rv_inS {c : Nat} {s : Str} : RvD K rInS ka (.val (.str ⟨#[c]⟩)) (.val (.str s)) (.val (.bl (decide (c ∈ s.cps.toList)))) := fun B F0 ro ta sg H u v Q e h1 h2 q =>
  ⟨c, s, e.tm_str h1, e.tm_str h2, q _ _ (e.push_imm fun _ => rfl)⟩
theorem rpl_ints {F : Hp} : ∀ (zs : List Int), RpL K F (zs.map D.int) (zs.map V.int)
  | [] => rfl
  | z :: zs => ⟨.int z, _, rfl, rfl, rpl_ints zs⟩
/-- a slot's cell is frozen -/
theorem Gp.frz {i j : Nat} {ds : List D} (hi : ro[i]? = some (some (.val (.adr a)))) (hj : ka[j]? = some (a, .lst ds)) (h : Gp K B F0 ta P (ro.set i (some (.val (.lst ds)))) (ka.eraseIdx j)) : Gp K B F0 ta P ro ka := fun sg H e => by
  have hp : (ka.eraseIdx j ++ [(a, Nd.lst ds)]).Perm ka := by
    have hlt := (List.getElem?_eq_some_iff.mp hj).1
    have h2 : ka[j] = (a, Nd.lst ds) := (List.getElem?_eq_some_iff.mp hj).2
    have e3 : ka = ka.take j ++ (a, Nd.lst ds) :: ka.drop (j + 1) := by
      rw [← h2, List.getElem_cons_drop, List.take_append_drop]
    rw [List.eraseIdx_eq_take_drop_succ]
    refine List.Perm.trans List.perm_append_comm ?_
    show (((a, Nd.lst ds)) :: (ka.take j ++ ka.drop (j + 1))).Perm ka
    refine List.Perm.trans List.perm_middle.symm ?_
    rw [← e3]
  obtain ⟨F, g, e2⟩ := (e.perm hp).freeze_l
  refine h sg H ⟨F, g, (e2.frame (ro' := ro.set i (some (.val (.lst ds)))) (sg' := sg) (by rw [List.length_set]; exact e2.ln) fun k w q => ?_).held fun p hp => List.mem_cons_of_mem _ hp⟩
  by_cases hik : i = k
  · subst hik
    have hl := (List.getElem?_eq_some_iff.mp hi).1
    rw [List.getElem?_set_self hl] at q
    cases q
    obtain ⟨v, h1, h2⟩ := e2.sl i _ hi
    obtain rfl : v = .ref a := h2
    exact ⟨.ref a, h1, e2.tm _ List.mem_cons_self⟩
  · rw [List.getElem?_set_ne hik] at q
    exact e2.sl k w q
end
end DL

/-! DK: what the head tells of a text's defs and classes (own work). -/
namespace DL
open PySem L2 PySem.W

/-- the getter of the property m of the class at C -/
def pga (K : PySem.W.Frag) (C : Addr) (m : Str) : Addr := match recIn K (He.ma K C m) "property" with
  | some (.ref g :: _) => g
  | _ => 0
/-! the picture of a def: all that the text fixes of it -/
structure Pic where
  nm : Str
  qn : Str
  pars : Arguments
  code : FuncBody
  sco : Scope
  env : Addr × Addr
  clo : List (Str × Addr)
def picOf (f : FuncData) : Pic := ⟨f.name, f.qualname, f.params, f.body, f.scope, (f.globals, f.builtins), f.closure⟩
def asFn : Data → Option FuncData
  | .func f => some f
  | _ => none
def fnAt (K : PySem.W.Frag) (a : Addr) : Option FuncData := (K.lookup a).bind fun o => asFn o.data
theorem asFn_some {dt : Data} {f : FuncData} (h : asFn dt = some f) : dt = .func f := by
  cases dt <;> first | (cases h; rfl) | cases h
theorem fnAt_some {K : PySem.W.Frag} {a : Addr} {f : FuncData} (h : fnAt K a = some f) : ∃ o, K.lookup a = some o ∧ o.data = .func f := by
  obtain ⟨o, h1, h2⟩ := Option.bind_eq_some_iff.mp h
  exact ⟨o, h1, asFn_some h2⟩
/-- a def of the text: where it stands, its picture, its defaults -/
structure Df where
  at_ : PySem.W.Frag → Addr
  name : Str
  qual : Str
  params : Arguments
  body : List Stmt
  scope : Scope
  dfs : PySem.W.Frag → List V
def Df.pic (d : Df) : Pic := ⟨d.name, d.qual, d.params, .stmts d.body, d.scope, (mainGlobals, builtinsNs), []⟩
def Df.good (K : PySem.W.Frag) (d : Df) : Bool := keepIn K (.ref (d.at_ K)) && (fnAt K (d.at_ K)).any fun f => codeIn K f.code d.qual && (He.dflB K f.defaults (d.dfs K) && He.kwdB K f.kwdefaults [])
theorem Df.known {K : PySem.W.Frag} {d : Df} (e : (fnAt K (d.at_ K)).map picOf = some d.pic) (c : d.good K = true) : ∃ fd, FunD K d.name d.qual d.params d.body d.scope (d.dfs K) [] (d.at_ K) fd := by
  have c' := Bool.and_eq_true_iff.mp c
  cases hf : fnAt K (d.at_ K) with
  | none =>
    rw [hf] at e
    cases e
  | some f =>
    rw [hf] at e c'
    have c2 : (codeIn K f.code d.qual && (He.dflB K f.defaults (d.dfs K) && He.kwdB K f.kwdefaults [])) = true := c'.2
    have c3 := Bool.and_eq_true_iff.mp c2
    have c4 := Bool.and_eq_true_iff.mp c3.2
    obtain ⟨o, lk, hd⟩ := fnAt_some hf
    have same : f = PySem.W.fnOf d.name d.qual d.params d.body d.scope f.defaults f.kwdefaults f.doc f.pyModule f.annotations f.code f.closureTuple := by
      have e1 : picOf f = d.pic := Option.some.inj e
      have n := congrArg Pic.nm e1
      have qn := congrArg Pic.qn e1
      have ps := congrArg Pic.pars e1
      have bd := congrArg Pic.code e1
      have sc := congrArg Pic.sco e1
      have ev := congrArg Pic.env e1
      have cl := congrArg Pic.clo e1
      have g := congrArg Prod.fst ev
      have bt := congrArg Prod.snd ev
      cases f
      cases n; cases qn; cases ps; cases bd; cases sc; cases cl; cases g; cases bt
      rfl
    have lk2 : K.lookup (d.at_ K) = some ⟨o.cls, o.dict, .func f, o.slots⟩ := by
      rw [lk, ← hd]
    exact ⟨f, ⟨o.cls, o.dict, f.defaults, f.kwdefaults, f.doc, f.pyModule, f.annotations, f.code, f.closureTuple, o.slots, same, lk2, c3.1, He.dflB_ok c4.1, He.kwdB_ok c4.2⟩, c'.1⟩
abbrev Fx := PySem.W.Frag → Bool
/-- all facts and all defs of a text, looked at in one heap -/
abbrev AlY : Type := Bool × List (Option Pic)
def lookY (ex : List Fx) (fn : List Df) (K : PySem.W.Frag) : AlY := (ex.all (· K) && fn.all (Df.good K), fn.map fun d => (fnAt K (d.at_ K)).map picOf)
def dueY (fn : List Df) : AlY := (true, fn.map fun d => some d.pic)
def SaysY (ex : List Fx) (fn : List Df) (K : PySem.W.Frag) : Prop := lookY ex fn K = dueY fn
section
variable {ex : List Fx} {fn : List Df} {K : PySem.W.Frag}
theorem SaysY.both (c : SaysY ex fn K) : (∀ f ∈ ex, f K = true) ∧ ∀ d ∈ fn, Df.good K d = true := by
  have c1 : (ex.all (· K) && fn.all (Df.good K)) = true := congrArg Prod.fst c
  rw [Bool.and_eq_true, List.all_eq_true, List.all_eq_true] at c1
  exact c1
theorem SaysY.fact (c : SaysY ex fn K) (i : Nat) {f : Fx} (h : ex[i]? = some f := by rfl) : f K = true := c.both.1 f (List.mem_of_getElem? h)
theorem SaysY.def_ (c : SaysY ex fn K) (i : Nat) {d : Df} (h : fn[i]? = some d := by rfl) : ∃ fd, FunD K d.name d.qual d.params d.body d.scope (d.dfs K) [] (d.at_ K) fd := by
  refine Df.known ?_ (c.both.2 d (List.mem_of_getElem? h))
  have e := congrArg (fun z : AlY => z.2[i]?) c
  simp only [lookY, dueY, List.getElem?_map, h, Option.map_some, Option.some.injEq] at e
  exact e
end
/-! ### the facts, by Bool -/
section
variable {K : PySem.W.Frag} {C : Addr}
def fGlo (x : Str) : Fx := fun K => (He.Fa.glo x).ok K && keepIn K (.ref (He.ga K x))
def fFree (x : Str) : Fx := fun K => (He.Fa.free x).ok K
def fStr (x z : Str) : Fx := fun K => (He.Fa.str x z).ok K
def fInt (x : Str) (i : Int) : Fx := fun K => (He.Fa.int x i).ok K
def fCls (x : Str) : Fx := fun K => (He.Fa.cls x).ok K
def fMkr (x : Str) : Fx := fun K => (He.Fa.mkr x).ok K
def fNoat (x f : Str) : Fx := fun K => (He.Fa.noat x f).ok K
def fMeth (x m : Str) : Fx := fun K => (He.Fa.meth x m).ok K
def fSm (x m : Str) : Fx := fun K => He.eqO (findIn K (.ref (He.ga K x)) m) (some (some (.ref (He.ma K (He.ga K x) m)))) && isFn K (.ref (He.ma K (He.ga K x) m))
theorem sm_ok {x m : Str} (h : fSm x m K = true) : Sm K (He.ga K x) m (He.ma K (He.ga K x) m) := let ⟨a, b⟩ := He.ba h; ⟨He.eqO_ok a, b⟩
def fProp (x m : Str) : Fx := fun K => He.eqO (findIn K (.ref (He.ga K x)) m) (some (some (.ref (He.ma K (He.ga K x) m)))) && (He.eqO (specialIn K (.ref (He.ma K (He.ga K x) m)) "__get__") (some (some (.builtin "property.__get__"))) &&
  (decide (takesIn K (.ref (He.ma K (He.ga K x) m)) = some true) && (match recIn K (He.ma K (He.ga K x) m) "property" with
    | some (.ref _ :: _) => true
    | _ => false)))
theorem prop_ok {x m : Str} (h : fProp x m K = true) : PropOf K (He.ga K x) m (He.ma K (He.ga K x) m) (pga K (He.ga K x) m) := by
  obtain ⟨h1, h⟩ := He.ba h
  obtain ⟨h2, h⟩ := He.ba h
  obtain ⟨h3, h4⟩ := He.ba h
  refine ⟨He.eqO_ok h1, He.eqO_ok h2, of_decide_eq_true h3, ?_⟩
  unfold pga
  split at h4
  · rename_i a r q
    rw [q]
    exact ⟨r, rfl⟩
  · cases h4
def fClsI (x : Str) : Fx := fun K => (He.Fa.cls x).ok K && (He.eqO (findIn K (.ref (He.ga K x)) "__class__") (some (some (.builtin "object.__class__"))) && (He.eqO (specialIn K (.builtin "object.__class__") "__get__") (some (some (.builtin "getset_descriptor.__get__"))) &&
  (decide (takesIn K (.builtin "object.__class__") = some true) && decide (mroIn K (He.ga K x) (.type "object") = some true))))
theorem clsI_ok {x : Str} (h : fClsI x K = true) : ClsI K (He.ga K x) := by
  obtain ⟨h1, h⟩ := He.ba h
  obtain ⟨h2, h⟩ := He.ba h
  obtain ⟨h3, h⟩ := He.ba h
  obtain ⟨h4, h5⟩ := He.ba h
  exact ⟨He.cls_ok h1, He.eqO_ok h2, He.eqO_ok h3, of_decide_eq_true h4, of_decide_eq_true h5⟩
def fBo (x : Str) (op : Operator) : Fx := fun K => selfFirst K (He.ga K x) && (fSm x (PySem.dunder op.info.2) K && He.eqO (findIn K (.ref (He.ga K x)) (dunderR op.info.2)) (some none))
theorem bo_ok {x : Str} {op : Operator} (h : fBo x op K = true) : Bo K (He.ga K x) op (He.ma K (He.ga K x) (PySem.dunder op.info.2)) := by
  obtain ⟨h1, h⟩ := He.ba h
  obtain ⟨h2, h3⟩ := He.ba h
  exact ⟨h1, sm_ok h2, He.eqO_ok h3⟩
def fBoT (x : Str) (op : Operator) (T : String) : Fx := fun K => (findIn K (.type T) (PySem.dunder op.info.2)).isSome && ((findIn K (.type T) (dunderR op.info.2)).isSome && decide (subIn K (.type T) (.ref (He.ga K x)) = some false))
theorem boT_ok {x : Str} {op : Operator} {T : String} (h : fBoT x op T K = true) : BoT K (He.ga K x) op T := by
  obtain ⟨h1, h⟩ := He.ba h
  obtain ⟨h2, h3⟩ := He.ba h
  exact ⟨Option.isSome_iff_exists.mp h1, Option.isSome_iff_exists.mp h2, of_decide_eq_true h3⟩
def fXc (x : Str) : Fx := fun K => xcB K (He.ga K x)
def fXi (x : Str) : Fx := fun K => He.eqO (findIn K (.ref (He.ga K x)) "__init__") (some (some (.ref (He.ma K (He.ga K x) "__init__")))) && decide (typeIn K (.ref (He.ma K (He.ga K x) "__init__")) = some (.type "function"))
theorem xi_ok {x : Str} (h : fXi x K = true) : findIn K (.ref (He.ga K x)) "__init__" = some (some (.ref (He.ma K (He.ga K x) "__init__"))) ∧ typeIn K (.ref (He.ma K (He.ga K x) "__init__")) = some (.type "function") := let ⟨a, b⟩ := He.ba h; ⟨He.eqO_ok a, of_decide_eq_true b⟩
def fX0 (x : Str) : Fx := fun K => (He.Fa.exc x).ok K
def fExm (x y : Str) (b : Bool) : Fx := fun K => (He.Fa.exm x y b).ok K
def fKit (t T : String) (b : Bool) : Fx := fun K => decide (kitOne K (.type t) (.type T) = some b)
theorem kit_ok {t T : String} {b : Bool} (h : fKit t T b K = true) : kitOne K (.type t) (.type T) = some b := of_decide_eq_true h
/-- is a t an own x -/
def fKitC (t : String) (x : Str) (b : Bool) : Fx := fun K => decide (kitOne K (.type t) (.ref (He.ga K x)) = some b)
theorem kitC_ok {t : String} {x : Str} {b : Bool} (h : fKitC t x b K = true) : kitOne K (.type t) (.ref (He.ga K x)) = some b := of_decide_eq_true h
/-- is an own y an own x -/
def fKitO (y x : Str) (b : Bool) : Fx := fun K => decide (kitOne K (.ref (He.ga K y)) (.ref (He.ga K x)) = some b)
theorem kitO_ok {y x : Str} {b : Bool} (h : fKitO y x b K = true) : kitOne K (.ref (He.ga K y)) (.ref (He.ga K x)) = some b := of_decide_eq_true h
end
/-! ### words of the derivations -/
section
variable {X : Cx} {E : XK}
theorem pass_own {E₁ : Value → Shared → Prop} (hs : X.stack = X.env :: X.outer) (hf : X.env.frame = some X.env.locals) (hex : X.ex = []) (hx : X.xe = fun e s' => wpAny (model X.prog X.w) X.A (leaving X.env e) (fun _ s'' => L2.CX X.prog X.w X.outer X.H_0 X.s_0 E e s'') E₁ s') : Passes (L2.CX X.prog X.w) X E :=
  passes_call (takes_of hs hf hex hx) fun _ _ _ _ h => h
def rMulU : R2 := fun x y H Q => rI PySem.IntMulOk (fun i j => .int (i * j)) x y H Q ∨ rRep x y H Q
theorem op_mulU : OpR X (binaryOp .Mult) rMulU := OpR.or (opI fun _ _ _ _ _ _ _ hc q => PyProof.Rows.mul_int q hc) op_rep
def rInU (K : PySem.W.Frag) : R2 := fun x y H Q => rInS x y H Q ∨ rIn K false x y H Q
theorem op_inU : OpR X (compareOp .In) (rInU X.K) := op_inS.or op_in_seq
def rNiU (K : PySem.W.Frag) : R2 := fun x y H Q => rNotInS x y H Q ∨ rIn K true x y H Q
theorem op_niU : OpR X (compareOp .NotIn) (rNiU X.K) := op_notInS.or op_notIn_seq
end
end DL

/-! DL1: contracts by number of arguments, bundles for the printed derivations (own work). -/
namespace DL
open PySem L2 PySem.W
abbrev Oc := Out → Cells → Prop
def Ct1 (R : W → Cells → Oc → Prop) : Ct := fun ws ka out => ∃ a, ws = [a] ∧ R a ka out
def Ct2 (R : W → W → Cells → Oc → Prop) : Ct := fun ws ka out => ∃ a b, ws = [a, b] ∧ R a b ka out
def Ct3 (R : W → W → W → Cells → Oc → Prop) : Ct := fun ws ka out => ∃ a b c, ws = [a, b, c] ∧ R a b c ka out
def Ct4 (R : W → W → W → W → Cells → Oc → Prop) : Ct := fun ws ka out => ∃ a b c d, ws = [a, b, c, d] ∧ R a b c d ka out
def Ct5 (R : W → W → W → W → W → Cells → Oc → Prop) : Ct := fun ws ka out => ∃ a b c d e, ws = [a, b, c, d, e] ∧ R a b c d e ka out
theorem ct1_len {R} : ∀ ws ka out, Ct1 R ws ka out → ws.length = 1 := fun _ _ _ ⟨_, h, _⟩ => by rw [h]; rfl
theorem ct2_len {R} : ∀ ws ka out, Ct2 R ws ka out → ws.length = 2 := fun _ _ _ ⟨_, _, h, _⟩ => by rw [h]; rfl
theorem ct3_len {R} : ∀ ws ka out, Ct3 R ws ka out → ws.length = 3 := fun _ _ _ ⟨_, _, _, h, _⟩ => by rw [h]; rfl
theorem ct4_len {R} : ∀ ws ka out, Ct4 R ws ka out → ws.length = 4 := fun _ _ _ ⟨_, _, _, _, h, _⟩ => by rw [h]; rfl
theorem ct5_len {R} : ∀ ws ka out, Ct5 R ws ka out → ws.length = 5 := fun _ _ _ ⟨_, _, _, _, _, h, _⟩ => by rw [h]; rfl
/-- how a call ends: it comes back with d, the cells k; it raises -/
def Rt (d : D) (k : Cells) : Oc := fun o k' => o = .ret d ∧ k' = k
def Xt (C : Addr) (fs : List (Str × D)) (k : Cells) : Oc := fun o k' => o = .exc C fs ∧ k' = k
def X0 (C : Addr) (k : Cells) : Oc := fun o k' => o = .exc0 C ∧ k' = k
def Nt (n : Nd) (k : Cells) : Oc := fun o k' => ∃ a, o = .ret (.adr a) ∧ k' = k ++ [(a, n)]
section
variable {X : Cx} {k : Nat} {f C : Addr} {ps : List Str} {E : XK} {Ct' : Ct} {x m : Str} {p pos apos : Pos} {e o : Expr} {es : List Expr} {ta te to ti : TE} {t : TA}
/-- an own error with one field -/
structure Xn (P : Program) (w : World) (K : PySem.W.Frag) (mg : Str → Option Value) (base : Heap) (C : Addr) (fld : Str) : Prop where
  xc : Xc K C
  no : findIn K (.ref C) fld = some none
  ex : ∃ fI fd x, findIn K (.ref C) "__init__" = some (some (.ref fI)) ∧ typeIn K (.ref fI) = some (.type "function") ∧ FnOk P w K mg base (L2.CX P w) 1 fI fd ["self", x] (spI1 K C fld) ∧ Binds K fd ["self", x] []
namespace Xn
variable {P : Program} {w : World} {K : PySem.W.Frag} {mg : Str → Option Value} {base : Heap} {C : Addr} {fld : Str}
noncomputable def fI (Z : Xn P w K mg base C fld) : Addr := Classical.choose Z.ex
noncomputable def fd (Z : Xn P w K mg base C fld) : FuncData := Classical.choose (Classical.choose_spec Z.ex)
noncomputable def px (Z : Xn P w K mg base C fld) : Str := Classical.choose (Classical.choose_spec (Classical.choose_spec Z.ex))
theorem all (Z : Xn P w K mg base C fld) : findIn K (.ref C) "__init__" = some (some (.ref Z.fI)) ∧ typeIn K (.ref Z.fI) = some (.type "function") ∧ FnOk P w K mg base (L2.CX P w) 1 Z.fI Z.fd ["self", Z.px] (spI1 K C fld) ∧ Binds K Z.fd ["self", Z.px] [] :=
  Classical.choose_spec (Classical.choose_spec (Classical.choose_spec Z.ex))
end Xn
theorem un_ow (m : Sm X.K C "__neg__" f) (F : Fn X.prog X.w X.K X.mg X.base k f ps Ct') (hr : Room k X.A) (hx : Passes (L2.CX X.prog X.w) X E) : UnR X (unaryOp .USub) (rOwn1 C (spC X.K Ct') E) := by
  obtain ⟨fd, F, b⟩ := F
  exact un_own m F hr b hx
theorem op_ow {op : Operator} (o : Bo X.K C op f) (F : Fn X.prog X.w X.K X.mg X.base k f ps Ct') (hr : Room k X.A) (hx : Passes (L2.CX X.prog X.w) X E) : OpR X (binaryOp op) (rOwnT2 X.K C op (spC X.K Ct') E) := by
  obtain ⟨fd, F, b⟩ := F
  exact opr_T (op_own o F hr b hx)
end
end DL
namespace DL
open PySem L2 PySem.W
/-- a constant of the module -/
theorem pe_gv {X : Cx} {x : Str} {pos : Pos} {v : V} (hg : Gl X x) (h : ∃ u, X.mg x = some u ∧ RelV v u) (hd : (x == ("__debug__" : Str)) = false := by decide) : PE X (.Name x pos) (tC v) := let ⟨_, hm, r⟩ := h; pe_glob hg hm r hd
/-- what BlkOk asks, as one thing to be decided -/
def blkB (N : List Str) (sc scope : Scope) (own : List (Str × Nat)) : Bool :=
  decide (scope.kind = .function ∧ (∀ p ∈ own, N[p.2]? = some p.1) ∧ ∀ y ∈ scope.names, scope.names.lookup y.1 = some y.2 ∧ (y.2 = .free → sc.names.lookup y.1 = some .cell ∨ sc.names.lookup y.1 = some .free) ∧ (y.2 = .local ∨ y.2 = .cell → y.1 ∈ own.map (·.1) ∨ y.1 ∉ N))
theorem blk_ok {N : List Str} {sc scope : Scope} {own : List (Str × Nat)} (N' : List Str) (sc' : Scope) (eN : N = N') (eS : sc = sc') (h : blkB N' sc' scope own = true) : BlkOk N sc scope own :=
  let ⟨fn, at_, each⟩ := of_decide_eq_true h
  eN ▸ eS ▸ { kind := fn, uniq := fun y m => (each y m).1, ix := at_, free := fun y m => (each y m).2.1, own := fun y m => (each y m).2.2 }
end DL

/-! DM: shorter words (own work). -/
namespace DL
open PySem L2 PySem.W
section
variable {K : PySem.W.Frag} {B F F0 : Hp} {ro : Ro} {ka k1 k2 k3 kr : Cells} {ta : List (V × W)} {sg : L2.St} {H H' : Hp} {te tf tg : TE} {tr : TA} {tt tu : TT} {w x y z : W} {n m : Nd} {C dx a : Addr} {fs : List (Str × D)} {b : Bool} {P : L2.St → Hp → Prop} {De : Ends} {t u : TS} {E : XK}
theorem ea1 (h : EvD K te ro ka x k1) : EvA K (tCons te tNil) ro ka [x] k1 := ea_cons h ea_nil
theorem ea2 (h : EvD K te ro ka x k1) (h2 : EvD K tf ro k1 y k2) : EvA K (tCons te (tCons tf tNil)) ro ka [x, y] k2 := ea_cons h (ea1 h2)
theorem ea3 (h : EvD K te ro ka x k1) (h2 : EvD K tf ro k1 y k2) (h3 : EvD K tg ro k2 z k3) : EvA K (tCons te (tCons tf (tCons tg tNil))) ro ka [x, y, z] k3 := ea_cons h (ea2 h2 h3)
theorem EvA.to {ws ws' : List W} (h : EvA K tr ro ka ws k1) (e : ws = ws') : EvA K tr ro ka ws' k1 := e ▸ h
/-- the built-in type of data -/
def tyD : D → Option String
  | .non => some "NoneType" | .bl _ => some "bool" | .int _ => some "int" | .str _ => some "str" | .lst _ => some "list" | .tup _ => some "tuple"
  | _ => none
theorem tw_of {d : D} {T : String} (h : tyD d = some T) : Tw K ka (.val d) (.type T) := by
  cases d <;> cases h
  · exact .non
  · exact .bl
  · exact .int
  · exact .str
  · exact .tup .vt
  · exact .lst .vl
theorem ev_isi {T : String} {t : Value} (h : EvD K te ro ka w k1) (l : Tw K k1 w t) (e : kitOne K t (.type T) = some b) : EvD K (tCB (rIsi K) (tCons te (tCons (tC (.ty T)) tNil))) ro ka (.val (.bl b)) k1 := ev_cb (ea2 h ev_ty) (rc_isi l e)
theorem ev_isiC {C1 : Addr} {t : Value} (h : EvD K te ro ka w k1) (l : Tw K k1 w t) (e : kitOne K t (.ref C1) = some b) : EvD K (tCB (rIsi K) (tCons te (tCons (tC (.ref C1)) tNil))) ro ka (.val (.bl b)) k1 := ev_cb (ea2 h ev_ref) (rc_isiC l e)
theorem ev_len {t b : Bool} {ds : List D} (h : EvD K te ro ka w k1) (l : Lk k1 w t ds b) : EvD K (tCB (rLenU K) (tCons te tNil)) ro ka (.val (.int ds.length)) k1 := ev_cb (ea1 h) (rc_len l)
theorem ev_lenS {s : Str} (h : EvD K te ro ka (.val (.str s)) k1) (hs : s.length ≤ 100000) : EvD K (tCB (rLenU K) (tCons te tNil)) ro ka (.val (.int s.length)) k1 := ev_cb (ea1 h) (rc_lenS hs)
theorem ev_eq {d e : D} (h : EvD K te ro ka x k1) (h2 : EvD K tf ro k1 y k2) (l1 : Pk k2 x d) (l2 : Pk k2 y e) (p1 : pl 61 d = true) (p2 : pl 61 e = true) : EvD K (tOp (rEqP K false) te tf) ro ka (.val (.bl (eqD d e))) k2 := ev_op h h2 (rv_eqP l1 l2 p1 p2)
theorem ev_ne {d e : D} (h : EvD K te ro ka x k1) (h2 : EvD K tf ro k1 y k2) (l1 : Pk k2 x d) (l2 : Pk k2 y e) (p1 : pl 61 d = true) (p2 : pl 61 e = true) : EvD K (tOp (rEqP K true) te tf) ro ka (.val (.bl (!eqD d e))) k2 := ev_op h h2 (rv_neP l1 l2 p1 p2)
theorem ev_eqI {i j : Int} (h : EvD K te ro ka (.val (.int i)) k1) (h2 : EvD K tf ro k1 (.val (.int j)) k2) : EvD K (tOp (rEqP K false) te tf) ro ka (.val (.bl (i == j))) k2 := ev_eq h h2 .v .v rfl rfl
theorem ev_neI {i j : Int} (h : EvD K te ro ka (.val (.int i)) k1) (h2 : EvD K tf ro k1 (.val (.int j)) k2) : EvD K (tOp (rEqP K true) te tf) ro ka (.val (.bl (!(i == j)))) k2 := ev_ne h h2 .v .v rfl rfl
theorem ev_eqS {i j : Str} (h : EvD K te ro ka (.val (.str i)) k1) (h2 : EvD K tf ro k1 (.val (.str j)) k2) : EvD K (tOp (rEqP K false) te tf) ro ka (.val (.bl (i == j))) k2 := ev_eq h h2 .v .v rfl rfl
theorem ev_neS {i j : Str} (h : EvD K te ro ka (.val (.str i)) k1) (h2 : EvD K tf ro k1 (.val (.str j)) k2) : EvD K (tOp (rEqP K true) te tf) ro ka (.val (.bl (!(i == j)))) k2 := ev_ne h h2 .v .v rfl rfl
theorem ev_addI {i j : Int} (h : EvD K te ro ka (.val (.int i)) k1) (h2 : EvD K tf ro k1 (.val (.int j)) k2) : EvD K (tOp (rAddU K) te tf) ro ka (.val (.int (i + j))) k2 := ev_op h h2 rv_addI
theorem ev_subI {i j : Int} (h : EvD K te ro ka (.val (.int i)) k1) (h2 : EvD K tf ro k1 (.val (.int j)) k2) : EvD K (tOp rSubI te tf) ro ka (.val (.int (i - j))) k2 := ev_op h h2 rv_sub
theorem ev_mulI {i j : Int} (h : EvD K te ro ka (.val (.int i)) k1) (h2 : EvD K tf ro k1 (.val (.int j)) k2) (c : IntMulOk i j) : EvD K (tOp rMulU te tf) ro ka (.val (.int (i * j))) k2 := ev_op h h2 (rvd_l (rv_I c fun _ => rfl))
theorem ev_mulL {i j : Int} (h : EvD K te ro ka (.val (.int i)) k1) (h2 : EvD K tf ro k1 (.val (.int j)) k2) (c : Builtin.Int.intBits i ≤ 64 := by decide) : EvD K (tOp rMulU te tf) ro ka (.val (.int (i * j))) k2 := ev_mulI h h2 (.of_left c)
theorem ev_mulR {i j : Int} (h : EvD K te ro ka (.val (.int i)) k1) (h2 : EvD K tf ro k1 (.val (.int j)) k2) (c : Builtin.Int.intBits j ≤ 64 := by decide) : EvD K (tOp rMulU te tf) ro ka (.val (.int (i * j))) k2 := ev_mulI h h2 (.of_right c)
theorem ev_modI {i j : Int} (h : EvD K te ro ka (.val (.int i)) k1) (h2 : EvD K tf ro k1 (.val (.int j)) k2) (c : 0 < j) : EvD K (tOp rModI te tf) ro ka (.val (.int (i % j))) k2 := ev_op h h2 (rv_mod c)
theorem ev_divI {i j : Int} (h : EvD K te ro ka (.val (.int i)) k1) (h2 : EvD K tf ro k1 (.val (.int j)) k2) (c : CDiv i j) : EvD K (tOp rDivI te tf) ro ka (.val (.int (i / j))) k2 := ev_op h h2 (rv_div c)
theorem ev_powI {i j : Int} (h : EvD K te ro ka (.val (.int i)) k1) (h2 : EvD K tf ro k1 (.val (.int j)) k2) (c : CPow i j) : EvD K (tOp rPowI te tf) ro ka (.val (.int (i ^ j.toNat))) k2 := ev_op h h2 (rv_pow c)
theorem ev_lt {i j : Int} (h : EvD K te ro ka (.val (.int i)) k1) (h2 : EvD K tf ro k1 (.val (.int j)) k2) : EvD K (tOp rLtI te tf) ro ka (.val (.bl (decide (i < j)))) k2 := ev_op h h2 rv_lt
theorem ev_gt {i j : Int} (h : EvD K te ro ka (.val (.int i)) k1) (h2 : EvD K tf ro k1 (.val (.int j)) k2) : EvD K (tOp rGtI te tf) ro ka (.val (.bl (decide (j < i)))) k2 := ev_op h h2 rv_gt
theorem ev_ge {i j : Int} (h : EvD K te ro ka (.val (.int i)) k1) (h2 : EvD K tf ro k1 (.val (.int j)) k2) : EvD K (tOp rGeI te tf) ro ka (.val (.bl (decide (j ≤ i)))) k2 := ev_op h h2 rv_ge
theorem ev_int1 {i : Int} (h : EvD K te ro ka (.val (.int i)) k1) : EvD K (tCB rIntU (tCons te tNil)) ro ka (.val (.int i)) k1 := ev_cb (ea1 h) rc_int
theorem ev_addS {i j : Str} (h : EvD K te ro ka (.val (.str i)) k1) (h2 : EvD K tf ro k1 (.val (.str j)) k2) (hz : i.length + j.length ≤ 100000) : EvD K (tOp (rAddU K) te tf) ro ka (.val (.str (i ++ j))) k2 := ev_op h h2 (rv_addS hz)
theorem ev_ix {t b : Bool} {ds : List D} {i : Int} {d : D} (h : EvD K te ro ka w k1) (h2 : EvD K tf ro k1 (.val (.int i)) k2) (l : Lk k2 w t ds b) (hd : atI ds i = some d) : EvD K (tOp (rIx K) te tf) ro ka (part b d) k2 := ev_op h h2 (rv_ix l hd)
theorem ev_ixV {t : Bool} {ds : List D} {i : Int} {d : D} (h : EvD K te ro ka w k1) (h2 : EvD K tf ro k1 (.val (.int i)) k2) (l : Lk k2 w t ds false) (hd : atI ds i = some d) : EvD K (tOp (rIx K) te tf) ro ka (.val d) k2 := ev_ix h h2 l hd
theorem ev_ixS {s : Str} {i : Int} {c : Nat} (h : EvD K te ro ka (.val (.str s)) k1) (h2 : EvD K tf ro k1 (.val (.int i)) k2) (hs : s.length ≤ 100000) (hc : atI s.cps.toList i = some c) : EvD K (tOp (rIx K) te tf) ro ka (.val (.str ⟨#[c]⟩)) k2 := ev_op h h2 (rv_ixS hs hc)
theorem ev_inS {c : Nat} {s : Str} (h : EvD K te ro ka (.val (.str ⟨#[c]⟩)) k1) (h2 : EvD K tf ro k1 (.val (.str s)) k2) : EvD K (tOp (rInU K) te tf) ro ka (.val (.bl (decide (c ∈ s.cps.toList)))) k2 := ev_op h h2 (rvd_l rv_inS)
theorem rv_niS {c : Nat} {s : Str} : RvD K rNotInS ka (.val (.str ⟨#[c]⟩)) (.val (.str s)) (.val (.bl (!decide (c ∈ s.cps.toList)))) := fun B F0 ro ta sg H u v Q e h1 h2 q =>
  ⟨c, s, e.tm_str h1, e.tm_str h2, q _ _ (e.push_imm fun _ => rfl)⟩
theorem ev_niS {c : Nat} {s : Str} (h : EvD K te ro ka (.val (.str ⟨#[c]⟩)) k1) (h2 : EvD K tf ro k1 (.val (.str s)) k2) : EvD K (tOp (rNiU K) te tf) ro ka (.val (.bl (!decide (c ∈ s.cps.toList)))) k2 := ev_op h h2 (rvd_l rv_niS)
/-! ### calls -/
/-- a contract that works on no cells -/
theorem ev_callP {Cc : Ct} {ws : List W} {d : D} (ha : EvA K tr ro ka ws k1) (hC : Cc ws [] (Rt d [])) : EvD K (tCall (spC K Cc) [] E tr) ro ka (.val d) k1 := ev_callF (k1 := []) (k2 := []) k1 ha hC fun _ _ h => h
/-- .. on all -/
theorem ev_callA {Cc : Ct} {ws : List W} {d : D} (ha : EvA K tr ro ka ws k1) (hC : Cc ws k1 (Rt d k2)) : EvD K (tCall (spC K Cc) [] E tr) ro ka (.val d) k2 := ev_call ha hC fun _ _ h => h
/-- .. on the first cell -/
theorem ev_call1 {Cc : Ct} {ws : List W} {d : D} (ha : EvA K tr ro ka ws ((a, n) :: kr)) (hC : Cc ws [(a, n)] (Rt d [(a, m)])) : EvD K (tCall (spC K Cc) [] E tr) ro ka (.val d) ((a, m) :: kr) := ev_callF (k1 := [(a, n)]) (k2 := [(a, m)]) kr ha hC fun _ _ h => h
theorem evn_callP {Cc : Ct} {ws : List W} (ha : EvA K tr ro ka ws k1) (hC : Cc ws [] (Nt m [])) : EvN K (tCall (spC K Cc) [] E tr) ro ka m k1 := evn_call (k1 := []) (k2 := []) k1 ha hC fun _ _ h => h
/-- the call's end is told by a word: any data, any cells -/
theorem sp_rel {Cc : Ct} {ws : List W} {out : Oc} {vs : List V} {Q : VK} (e : En K B F0 ro (ka ++ kr) (vs.zip ws ++ ta) sg H) (hl : vs.length = ws.length) (hC : Cc ws ka out) (ho : ∀ o k, out o k → ∃ d, o = .ret d)
    (q : ∀ d k2 v H', out (.ret d) k2 → En K B F0 ro (k2 ++ kr) ((v, .val d) :: ta) sg H' → Q v H') : spC K Cc vs H Q E := by
  obtain ⟨F, g, e⟩ := e
  refine ⟨off H ka, F, ws, ka, out, hC, hl, ⟨F, Gr.refl _ _, e.into (ro' := []) (sg' := []) (ta' := vs.zip ws) rfl (fun i w h => by simp at h) fun p hp => List.mem_append_left _ hp⟩, fun d' k v H' o ⟨F', g', e'⟩ => ?_, fun C fs k dx H' o _ => ?_, fun C k H' o _ => ?_⟩
  · obtain ⟨g2, e2⟩ := e.back g' e' (tb := (v, .val d') :: ta) fun p hp => by
      rcases List.mem_cons.mp hp with rfl | hp
      · exact .inr ⟨d', rfl, List.mem_cons_self⟩
      · exact .inl (List.mem_append_right _ hp)
    exact q d' k v H' o ⟨F', g.trans g2, e2⟩
  · obtain ⟨_, z⟩ := ho _ _ o
    cases z
  · obtain ⟨_, z⟩ := ho _ _ o
    cases z
theorem g_call {Cc : Ct} {ws : List W} {out : Oc} {i : Nat} (kr : Cells) (ha : EvA K tr ro ka ws (k1 ++ kr)) (hC : Cc ws k1 out) (ho : ∀ o k, out o k → ∃ d, o = .ret d) (k : ∀ d k2, out (.ret d) k2 → Gp K B F0 ta De.nx (ro.set i (some (.val d))) (k2 ++ kr)) :
    Gp K B F0 ta (tAsg (tCall (spC K Cc) [] E tr) (gName i) De) ro ka := fun sg H e => ha B F0 ta sg H _ e fun vs H1 hl e1 => by
  rw [List.append_nil]
  exact sp_rel e1 hl hC ho fun d k2 v H' o e2 => k d k2 o _ _ (e2.set i)
theorem q_call {Cc : Ct} {ws : List W} {out : Oc} {i : Nat} (kr : Cells) (ha : EvA K tr ro ka ws (k1 ++ kr)) (hC : Cc ws k1 out) (ho : ∀ o k, out o k → ∃ d, o = .ret d) (k : ∀ d k2, out (.ret d) k2 → Gp K B F0 ta (u De) (ro.set i (some (.val d))) (k2 ++ kr)) :
    Gp K B F0 ta (tSeq (tAsg (tCall (spC K Cc) [] E tr) (gName i)) u De) ro ka := g_call (De := { De with nx := u De }) kr ha hC ho k
/-! ### returns -/
/-- a new cell is handed back as data -/
theorem g_retL {out : Oc} {ds : List D} (hr : RtOk K B F0 out De.rt) (h : EvN K te ro ka (.lst ds) k1) (o : out (.ret (.lst ds)) k1) : Gp K B F0 ta (tRet te De) ro ka := g_ret hr h.lst o
/-- .. as a cell -/
theorem g_retC {out : Oc} (hr : RtOk K B F0 out De.rt) (h : EvN K te ro ka n k1) (o : ∀ a, out (.ret (.adr a)) (k1 ++ [(a, n)])) : Gp K B F0 ta (tRet te De) ro ka := fun sg H e => h B F0 ta sg H _ e fun a H1 e1 =>
  hr (.adr a) _ (.ref a) H1 (o a) ((e1.push_imm (v := .ref a) (w := .val (.adr a)) fun _ => rfl).leave)
/-- .. of which a word tells -/
theorem g_retR {out : Oc} {R : Nd → Cells → Prop} (hr : RtOk K B F0 out De.rt) (h : EvNR K te ro ka R) (o : ∀ n k, R n k → ∃ ds, n = .lst ds ∧ out (.ret (.lst ds)) k) : Gp K B F0 ta (tRet te De) ro ka := fun sg H e => h B F0 ta sg H _ e fun n k a H1 r e1 => by
  obtain ⟨ds, rfl, o⟩ := o n k r
  exact hr (.lst ds) k (.ref a) H1 o e1.freeze_l.leave
theorem g_asgNR {R : Nd → Cells → Prop} {i : Nat} (h : EvNR K te ro ka R) (k : ∀ n k1 a, R n k1 → Gp K B F0 ta De.nx (ro.set i (some (.val (.adr a)))) (k1 ++ [(a, n)])) : Gp K B F0 ta (tAsg te (gName i) De) ro ka := fun sg H e => h B F0 ta sg H _ e fun n k1 a H1 r e1 => k n k1 a r _ _ (e1.setA i a)
theorem q_asgNR {R : Nd → Cells → Prop} {i : Nat} (h : EvNR K te ro ka R) (k : ∀ n k1 a, R n k1 → Gp K B F0 ta (u De) (ro.set i (some (.val (.adr a)))) (k1 ++ [(a, n)])) : Gp K B F0 ta (tSeq (tAsg te (gName i)) u De) ro ka := g_asgNR (De := { De with nx := u De }) h k
/-- a return of a call's end -/
theorem g_retS {Cc : Ct} {ws : List W} {out out' : Oc} (kr : Cells) (hr : RtOk K B F0 out De.rt) (ha : EvA K tr ro ka ws (k1 ++ kr)) (hC : Cc ws k1 out') (ho : ∀ o k, out' o k → ∃ d, o = .ret d) (o : ∀ d k2, out' (.ret d) k2 → out (.ret d) (k2 ++ kr)) :
    Gp K B F0 ta (tRet (tCall (spC K Cc) [] E tr) De) ro ka := fun sg H e => ha B F0 ta sg H _ e fun vs H1 hl e1 => by
  rw [List.append_nil]
  exact sp_rel e1 hl hC ho fun d k2 v H' o' e2 => hr d _ v H' (o d k2 o') e2.leave
theorem Gp.perm (h : Gp K B F0 ta P ro k1) (s : k1.Perm ka) : Gp K B F0 ta P ro ka := fun sg H e => h sg H (e.perm s)
end
end DL

/-! DN: comprehensions that map and choose; names, numbers (own work). -/
namespace DL
open PySem L2 PySem.W
section
variable {K : PySem.W.Frag} {ro : Ro} {ka k1 : Cells} {te : TE} {tt : TT} {wi : TI} {C : Cells → Prop} {j : Nat} {vs : List Nat} {α : Type}
theorem et_yes : EvT K tYes ro ka true ka := fun B F0 ta sg H Q e q => q H e
theorem take_succ_some {xs : List α} {i : Nat} {x : α} (h : xs[i]? = some x) : xs.take (i + 1) = xs.take i ++ [x] := by
  rw [List.take_succ, h]
  rfl
theorem evn_filt {xs : List α} {g : α → W} {f : α → D} {p : α → Bool} (h : EvI K wi ro ka (xs.map g) C k1) (hj : j ∈ vs) (hn : xs.length ≤ 1000000) (hC : C k1 ∧ ∀ x, C (k1 ++ [x]))
    (ht : ∀ x ∈ xs, EvT K tt ((wipeR ro vs).set j (some (g x))) k1 (p x) k1) (hs : ∀ x ∈ xs, p x = true → EvD K te ((wipeR ro vs).set j (some (g x))) k1 (.val (f x)) k1) : EvN K (tLc wi (gName j) tt te vs) ro ka (.lst ((xs.filter p).map f)) k1 := by
  refine evn_lc h hj (by rw [List.length_map]; exact hn) (fun i acc k => acc = ((xs.take i).filter p).map f ∧ k = k1) ⟨rfl, rfl⟩ (fun i acc k ⟨_, e⟩ => by subst e; exact hC) (fun i w acc k hw ⟨e1, e2⟩ => ?_) (fun acc k ⟨e1, e2⟩ => ⟨?_, e2⟩)
  · subst e1 e2
    rw [List.getElem?_map] at hw
    cases hx : xs[i]? with
    | none => rw [hx] at hw; cases hw
    | some x =>
      rw [hx] at hw
      cases hw
      have hm : x ∈ xs := List.mem_of_getElem? hx
      cases hp : p x with
      | false =>
        refine .inl ⟨k, hp ▸ ht x hm, ?_, rfl⟩
        rw [take_succ_some hx, List.filter_append]
        simp [hp]
      | true =>
        refine .inr ⟨k, k, f x, hp ▸ ht x hm, hs x hm hp, ?_, rfl⟩
        rw [take_succ_some hx, List.filter_append]
        simp [hp]
  · rw [e1, List.length_map, List.take_length]
theorem evn_map {xs : List α} {g : α → W} {f : α → D} (h : EvI K wi ro ka (xs.map g) C k1) (hj : j ∈ vs) (hn : xs.length ≤ 1000000) (hC : C k1 ∧ ∀ x, C (k1 ++ [x]))
    (hs : ∀ x ∈ xs, EvD K te ((wipeR ro vs).set j (some (g x))) k1 (.val (f x)) k1) : EvN K (tLc wi (gName j) tYes te vs) ro ka (.lst (xs.map f)) k1 := by
  have := evn_filt (tt := tYes) (p := fun _ => true) h hj hn hC (fun _ _ => et_yes) (fun x hx _ => hs x hx)
  have e : xs.filter (fun _ => true) = xs := List.filter_eq_self.mpr fun _ _ => rfl
  rwa [e] at this
end
/-! ### texts -/
theorem str_len (s : Str) : s.length = s.cps.toList.length := by
  show s.cps.size = _
  simp
theorem str_ext {s t : Str} (h : s.cps.toList = t.cps.toList) : s = t := by
  cases s with
  | mk a =>
    cases t with
    | mk b =>
      have : a = b := by
        have h2 : a.toList = b.toList := h
        exact Array.toList_inj.mp h2
      rw [this]
theorem str_nil {s : Str} (h : s.cps.toList = []) : s = ("" : Str) := str_ext h
def letL : List Nat := ("abcdefghijklmnopqrstuvwxyz" : Str).cps.toList
def digL : List Nat := ("0123456789" : Str).cps.toList
/-- is a text a name: its signs -/
def nmL : List Nat → Bool
  | [] => false
  | c :: r => decide ((c :: r).length ≤ 8) && (decide (c ∈ letL) && (c :: r).all fun x => decide (x ∈ letL) || decide (x ∈ digL))
def isNm (s : Str) : Bool := nmL s.cps.toList
theorem isNm_len {s : Str} (h : isNm s = true) : s.length ≤ 8 := by
  unfold isNm at h
  rw [str_len]
  cases hc : s.cps.toList with
  | nil => simp
  | cons c r =>
    rw [hc] at h
    unfold nmL at h
    rw [Bool.and_eq_true] at h
    exact of_decide_eq_true h.1
/-- .. data -/
def isNmD : D → Bool
  | .str s => isNm s
  | _ => false
/-- data that a name's test may be asked of -/
def nmOk : D → Prop
  | .str s => s.length ≤ 1000
  | d => tyD d ≠ none
theorem at0 {β : Type} {c : β} {r : List β} : atI (c :: r) 0 = some c := atI_nat (j := 0) rfl
theorem atZ {β : Type} {xs : List β} {i : Int} {x : β} (h0 : 0 ≤ i) (h : xs[i.toNat]? = some x) : atI xs i = some x := by
  have := atI_nat h
  rwa [Int.toNat_of_nonneg h0] at this
/-! ### cuts -/
theorem six_nat {n : Nat} {i : Int} (h0 : 0 ≤ i) (h1 : i ≤ n) (d : Nat) : HT.sIx n d (some i) = i.toNat := by
  unfold HT.sIx
  simp only
  first
    | omega
    | (split <;> omega)
    | (repeat' split) <;> omega
theorem six_none {n d : Nat} : HT.sIx n d none = d := rfl
theorem cut_from {β : Type} {xs : List β} {i : Int} (h0 : 0 ≤ i) (h1 : i ≤ xs.length) : cutD xs (some i) none = xs.drop i.toNat := by
  unfold cutD
  rw [six_nat h0 h1, six_none]
  exact List.take_of_length_le (by rw [List.length_drop]; exact Nat.le_refl _)
theorem cut_to {β : Type} {xs : List β} {i : Int} (h0 : 0 ≤ i) (h1 : i ≤ xs.length) : cutD xs none (some i) = xs.take i.toNat := by
  unfold cutD
  rw [six_nat h0 h1, six_none, List.drop_zero, Nat.sub_zero]
theorem cut_len {β : Type} (xs : List β) (lo hi : Option Int) : (cutD xs lo hi).length ≤ xs.length := by
  unfold cutD
  rw [List.length_take, List.length_drop]
  omega
/-! ### texts in lists -/
theorem eqD_str {a b : Str} : eqD (.str a) (.str b) = (a == b) := rfl
def stD (ss : List Str) : List D := ss.map .str
theorem stD_len (ss : List Str) : (stD ss).length = ss.length := List.length_map ..
theorem pl_stD (ss : List Str) (n : Nat) : (stD ss).all (pl n) = true := List.all_eq_true.mpr fun d hd => by
  obtain ⟨s, _, rfl⟩ := List.mem_map.mp hd
  cases n <;> rfl
theorem eqL_stD : ∀ xs ys : List Str, eqL (stD xs) (stD ys) = decide (xs = ys)
  | [], [] => rfl
  | [], _ :: _ => rfl
  | _ :: _, [] => rfl
  | x :: xs, y :: ys => by
    have ih := eqL_stD xs ys
    show (eqD (.str x) (.str y) && eqL (stD xs) (stD ys)) = _
    rw [ih, eqD_str]
    by_cases h1 : x = y
    · subst h1
      by_cases h2 : xs = ys
      · subst h2; simp
      · simp [h2]
    · simp [h1]
theorem lk1 {β : Type} {f : Str} {v : β} : List.lookup f [(f, v)] = some v := by simp [List.lookup]
theorem part_of {b : Bool} {ds : List D} (h : SqF b ds) {d : D} (hd : d ∈ ds) : part b d = .val d := by
  rcases h with h | h
  · subst h; rfl
  · have := List.all_eq_true.mp h d hd
    unfold part
    rw [this]
    simp
section
variable {K : PySem.W.Frag} {ka kr : Cells} {w : W} {t b : Bool} {ds : List D}
theorem Lk.stay (l : Lk ka w t ds b) : Stay w ds ka := by
  cases l with
  | vl => trivial
  | vt => trivial
  | wl => trivial
  | wt => trivial
  | ce j h => exact List.mem_of_getElem? h
theorem Lk.app (l : Lk ka w t ds b) : Lk (ka ++ kr) w t ds b := l.mono _ (by
  have := l.stay
  unfold Stay at this ⊢
  split
  · rename_i a
    exact List.mem_append_left _ this
  · trivial)
end
theorem find_first {β : Type} {p : β → Bool} {ds : List β} {i : Nat} {d : β} (h : ∀ e ∈ ds.take i, p e = false) (hi : ds[i]? = some d) (hp : p d = true) : ds.find? p = some d := by
  have e : ds = ds.take i ++ d :: ds.drop (i + 1) := by
    have hl := (List.getElem?_eq_some_iff.mp hi).1
    have h2 : ds[i] = d := (List.getElem?_eq_some_iff.mp hi).2
    rw [← h2, List.getElem_cons_drop, List.take_append_drop]
  rw [e, List.find?_append, List.find?_eq_none.mpr (fun x hx => by rw [h x hx]; exact Bool.false_ne_true)]
  simp [hp]
theorem find_none {β : Type} {p : β → Bool} {ds : List β} (h : ∀ e ∈ ds, p e = false) : ds.find? p = none := List.find?_eq_none.mpr fun x hx => by rw [h x hx]; exact Bool.false_ne_true
end DL
namespace DL
open PySem L2 PySem.W
section
variable {K : PySem.W.Frag} {B F0 : Hp} {ro : Ro} {ka k1 k2 : Cells} {ta : List (V × W)} {tt : TT} {De : Ends} {t u : TS}
/-- an if whose ends meet again under a word -/
theorem q_whenI {b : Bool} (Inv : Ro → Cells → Prop) (h : EvT K tt ro ka b k1) (h1 : b = true → ∀ nx, (∀ ro2 ka2, Inv ro2 ka2 → Gp K B F0 ta nx ro2 ka2) → Gp K B F0 ta (t { De with nx := nx }) ro k1) (h2 : b = false → Inv ro k1) (k : ∀ ro2 ka2, Inv ro2 ka2 → Gp K B F0 ta (u De) ro2 ka2) : Gp K B F0 ta (tSeq (tIfS tt t tNext) u De) ro ka :=
  q_when h (fun hb => h1 hb _ k) fun hb => k _ _ (h2 hb)
end
/-! ### the pool of the laws -/
structure Pl where
  a : Int
  b : Int
  c : Int
def Pl.ds (p : Pl) : List D := [.int p.a, .int p.b, .int p.c]
structure Pl.Ok (p : Pl) (n : Int) : Prop where
  a0 : 0 ≤ p.a
  b0 : 0 ≤ p.b
  b1 : p.b < 1000000007
  c0 : 0 ≤ p.c
  c1 : p.c ≤ n
theorem Pl.Ok.up {p : Pl} {m n : Int} (h : p.Ok m) (l : m ≤ n) : p.Ok n := ⟨h.a0, h.b0, h.b1, h.c0, Int.le_trans h.c1 l⟩
def fldZ (z : Int) : Int := if z < 0 then 0 - 2 * z - 1 else 2 * z
def plOf (z : Int) : Pl := if fldZ z ≥ 10 ^ 18 then ⟨fldZ z, fldZ z % 1000000007, 0⟩ else ⟨0, fldZ z % 1000000007, 0⟩
theorem fldZ_nn (z : Int) : 0 ≤ fldZ z := by
  unfold fldZ
  split <;> omega
theorem plOf_ok (z : Int) : (plOf z).Ok 0 := by
  have h := fldZ_nn z
  have h0 : 0 ≤ fldZ z % 1000000007 := Int.emod_nonneg _ (by decide)
  have h1 : fldZ z % 1000000007 < 1000000007 := Int.emod_lt_of_pos _ (by decide)
  unfold plOf
  split
  · exact ⟨h, h0, h1, Int.le_refl _, Int.le_refl _⟩
  · exact ⟨Int.le_refl _, h0, h1, Int.le_refl _, Int.le_refl _⟩
/-- one draw below m -/
def tk (p : Pl) (m : Int) : Int × Pl :=
  if 0 < p.a then (p.a % m, ⟨p.a / m, p.b, p.c⟩)
  else (((p.b + 7919 * (p.c + 1) + 104729) ^ (5 : Int).toNat % 2147483647 + (p.c + 1)) * 40692 % 2147483629 % m, ⟨p.a, p.b, p.c + 1⟩)
theorem tk_lt (p : Pl) {m : Int} (h : 0 < m) : 0 ≤ (tk p m).1 ∧ (tk p m).1 < m := by
  unfold tk
  split
  · exact ⟨Int.emod_nonneg _ (by omega), Int.emod_lt_of_pos _ h⟩
  · exact ⟨Int.emod_nonneg _ (by omega), Int.emod_lt_of_pos _ h⟩
theorem tk_ok {p : Pl} {n m : Int} (h : p.Ok n) (hm : 0 < m) : (tk p m).2.Ok (n + 1) := by
  obtain ⟨h1, h2, h3, h4, h5⟩ := h
  unfold tk
  split
  · exact ⟨Int.ediv_nonneg h1 (by omega), h2, h3, h4, by show p.c ≤ n + 1; omega⟩
  · exact ⟨h1, h2, h3, by show 0 ≤ p.c + 1; omega, by show p.c + 1 ≤ n + 1; omega⟩
end DL

/-! DP: texts by their signs (own work). -/
namespace DL
open PySem L2 PySem.W
/-- the text of these signs -/
def tx (l : List Nat) : Str := ⟨l.toArray⟩
theorem tx_cps (l : List Nat) : (tx l).cps.toList = l := rfl
theorem tx_len (l : List Nat) : (tx l).length = l.length := by rw [str_len, tx_cps]
theorem tx_app (l m : List Nat) : tx l ++ tx m = tx (l ++ m) := by
  refine str_ext ?_
  show ((tx l).cps ++ (tx m).cps).toList = l ++ m
  rw [Array.toList_append]
  rfl
theorem tx_cut (l : List Nat) (lo hi : Option Int) : cutS (tx l) lo hi = tx (cutD l lo hi) := by
  unfold cutS cutD
  rw [tx_cps, tx_len]
  rfl
theorem letters_tx : ("abcdefghijklmnopqrstuvwxyz" : Str) = tx letL := str_ext rfl
theorem digits_tx : ("0123456789" : Str) = tx digL := str_ext rfl
theorem let_len : letL.length = 26 := by decide
theorem sig_len : (letL ++ digL).length = 36 := by decide
theorem isNm_tx (l : List Nat) : isNm (tx l) = nmL l := by unfold isNm; rw [tx_cps]
theorem nmL_of {c : Nat} {r : List Nat} (h : c ∈ letL) (h2 : ∀ x ∈ c :: r, x ∈ letL ++ digL) (hl : (c :: r).length ≤ 8) : nmL (c :: r) = true := by
  show (decide ((c :: r).length ≤ 8) && (decide (c ∈ letL) && (c :: r).all fun x => decide (x ∈ letL) || decide (x ∈ digL))) = true
  rw [decide_eq_true hl, decide_eq_true h, Bool.true_and, Bool.true_and, List.all_eq_true]
  intro x hx
  rw [Bool.or_eq_true, decide_eq_true_eq, decide_eq_true_eq]
  exact List.mem_append.mp (h2 x hx)
/-- a name, its signs -/
theorem nm_of {l : List Nat} (h0 : ∃ c, l.head? = some c ∧ c ∈ letL) (h2 : ∀ x ∈ l, x ∈ letL ++ digL) (hl : l.length ≤ 8) : isNm (tx l) = true := by
  rw [isNm_tx]
  obtain ⟨c, hc, hm⟩ := h0
  cases l with
  | nil => cases hc
  | cons d r =>
    cases hc
    exact nmL_of hm h2 hl
/-- a drawn sign -/
theorem sgn_at {l : List Nat} {i : Int} (h0 : 0 ≤ i) (h1 : i < l.length) : ∃ c, atI l i = some c ∧ c ∈ l := by
  have hlt : i.toNat < l.length := by omega
  exact ⟨l[i.toNat], atZ h0 (List.getElem?_eq_getElem hlt), List.getElem_mem hlt⟩
section
variable {K : PySem.W.Frag} {ro : Ro} {ka k1 k2 k3 : Cells} {te tf : TE} {tl th : TO}
theorem ev_ixT {l : List Nat} {i : Int} {c : Nat} (h : EvD K te ro ka (.val (.str (tx l))) k1) (h2 : EvD K tf ro k1 (.val (.int i)) k2) (hs : l.length ≤ 1000) (hc : atI l i = some c) : EvD K (tOp (rIx K) te tf) ro ka (.val (.str (tx [c]))) k2 := ev_ixS h h2 (by rw [tx_len]; omega) (by rw [tx_cps]; exact hc)
theorem ev_addT {l m : List Nat} (h : EvD K te ro ka (.val (.str (tx l))) k1) (h2 : EvD K tf ro k1 (.val (.str (tx m))) k2) (hz : l.length + m.length ≤ 1000) : EvD K (tOp (rAddU K) te tf) ro ka (.val (.str (tx (l ++ m)))) k2 := (ev_addS h h2 (by rw [tx_len, tx_len]; omega)).to (by rw [tx_app])
theorem ev_slX {lo hi : Option Int} {l : List Nat} (ha : EvD K te ro ka (.val (.str (tx l))) k1) (h1 : EvO K tl ro k1 lo k2) (h2 : EvO K th ro k2 hi k3) (hs : l.length ≤ 1000) : EvD K (tSl (rSlU K) te tl th) ro ka (.val (.str (tx (cutD l lo hi)))) k3 := (ev_slS ha h1 h2 (by rw [tx_len]; omega)).to (by rw [tx_cut])
theorem ev_lenX {l : List Nat} (h : EvD K te ro ka (.val (.str (tx l))) k1) (hs : l.length ≤ 1000) : EvD K (tCB (rLenU K) (tCons te tNil)) ro ka (.val (.int l.length)) k1 := (ev_lenS h (by rw [tx_len]; omega)).to (by rw [tx_len])
end
end DL

/-! DR: expressions that raise, by data (own work). -/
namespace DL
open PySem L2 PySem.W
/-- te ends with an exception of C1, with the fields gs -/
def EvX (K : PySem.W.Frag) (te : TE) (ro : Ro) (ka : Cells) (E : XK) (C1 : Addr) (gs : List (Str × D)) (k2 : Cells) : Prop := ∀ B F0 ta sg H (Q : VK), En K B F0 ro ka ta sg H → (∀ dx H', En K B F0 ro (k2 ++ [(dx, .xd gs)]) ta sg H' → E (.ref C1) (some dx) H') → te sg H Q
section
variable {K : PySem.W.Frag} {B F0 : Hp} {ro : Ro} {ka k1 k2 k3 kr : Cells} {ta : List (V × W)} {sg : L2.St} {H : Hp} {te tf : TE} {tr : TA} {x y : W} {C C1 : Addr} {fs gs : List (Str × D)} {b : Bool} {E : XK} {De : Ends}
theorem evx_call {Cc : Ct} {ws : List W} {E' : XK} (ha : EvA K tr ro ka ws (k2 ++ kr)) (hC : Cc ws k2 (Xt C1 gs k3)) (hE : E' = E) : EvX K (tCall (spC K Cc) [] E' tr) ro ka E C1 gs (k3 ++ kr) := fun B F0 ta sg H Q e q => by
  subst hE
  refine ha B F0 ta sg H _ e fun vs H1 hl e1 => ?_
  rw [List.append_nil]
  refine sp_exc e1 hl hC (fun _ _ z => z) fun dx H' e3 => q dx H' (e3.perm ?_)
  rw [List.append_assoc, List.append_assoc]
  exact List.Perm.append_left _ List.perm_append_comm
end
end DL
namespace DL
open PySem L2 PySem.W
theorem cut_to' {β : Type} {xs : List β} {i : Int} (h0 : 0 ≤ i) : cutD xs none (some i) = xs.take i.toNat := by
  by_cases h1 : i ≤ xs.length
  · exact cut_to h0 h1
  · unfold cutD HT.sIx
    dsimp only
    rw [if_neg (by omega), List.drop_zero, Nat.sub_zero, Nat.min_eq_right (by omega), List.take_of_length_le (Nat.le_refl _), List.take_of_length_le (by omega)]
theorem stD_take (ss : List Str) (n : Nat) : (stD ss).take n = stD (ss.take n) := by unfold stD; rw [List.map_take]
theorem stD_app (xs ys : List Str) : stD xs ++ stD ys = stD (xs ++ ys) := by unfold stD; rw [List.map_append]
theorem stD_get {ss : List Str} {i : Nat} {s : Str} (h : ss[i]? = some s) : (stD ss)[i]? = some (.str s) := by unfold stD; rw [List.getElem?_map, h]; rfl
end DL
namespace DL
open PySem L2 PySem.W
/-- the end of a loop within a loop -/
theorem g_jpH {K : PySem.W.Frag} {B F0 : Hp} {ta ta' : List (V × W)} {Inv : Ro → Cells → Prop} {ro : Ro} {ka : Cells} (h : ∀ p ∈ ta, p ∈ ta') (i : Inv ro ka) : Gp K B F0 ta' (Jp K B F0 ta Inv) ro ka := fun sg H e => ⟨ro, ka, i, e.held h⟩
end DL
namespace DL
open PySem L2 PySem.W
def inD (ns : List Int) : List D := ns.map .int
/-- w is the script -/
def Scr (K : PySem.W.Frag) (w : W) (ns : List Int) : Prop := w = .val (.lst (inD ns)) ∨ ∃ p, w = .val (.adr p) ∧ ∀ H, SqL K H p (ns.map V.int)
theorem law_sp {K : PySem.W.Frag} {Cc : Ct} {H : Hp} {a : Addr} {ns : List Int} (hC : ∀ z, Scr K z ns → Cc [z] [] (Rt (.bl true) [])) (hS : SqL K H a (ns.map V.int)) : spC K Cc [.ref a] H (fun v _ => v = .bl true) fun _ _ _ => False := by
  have rt : ∀ {B F0 : Hp}, RtOk K B F0 (Rt (.bl true) []) (fun v _ => v = .bl true) := fun {B F0} d ka v H' o e => by
    obtain ⟨h, _⟩ := o
    cases h
    exact e.tm_bl List.mem_cons_self
  have rx : ∀ {B F0 : Hp}, RxOk K B F0 (Rt (.bl true) []) (fun _ _ _ => False) := fun {B F0} => ⟨fun C fs ka dx H' o _ => (by cases o.1), fun C ka H' o _ => (by cases o.1)⟩
  have nob : Sub (fun _ => none) H := fun _ _ h => by cases h
  rcases id hS with h | h
  · refine ⟨fun _ => none, gH H, [.val (.lst (inD ns))], [], _, hC _ (.inl rfl), rfl, ⟨gH H, Gr.refl _ _, gH_nz, gH_exz, nob, List.nodup_nil, fun p hp => (by cases hp), rfl, fun i w e => by simp at e, fun p hp => ?_⟩, rt, rx⟩
    have hp2 : p = (V.ref a, W.val (.lst (inD ns))) := by simpa using hp
    subst hp2
    refine ⟨a, ns.map V.int, rfl, .inl ?_, rpl_ints ns⟩
    unfold gH
    rcases h with h | ⟨o, h⟩
    · rw [h]
    · rw [h]
      rfl
  · refine ⟨fun _ => none, fun _ => none, [.val (.adr a)], [], _, hC _ (.inr ⟨a, rfl, fun _ => .inr h⟩), rfl, ⟨fun _ => none, Gr.refl _ _, fun _ _ h => (by cases h), fun _ _ h => (by cases h), nob, List.nodup_nil, fun p hp => (by cases hp), rfl, fun i w e => by simp at e, fun p hp => ?_⟩, rt, rx⟩
    have hp2 : p = (V.ref a, W.val (.adr a)) := by simpa using hp
    subst hp2
    rfl
/-- what the head must tell of a law's def: its contract, kept by every list of numbers -/
def LawIn (l : PySem.W.OpenLaw) (k : Nat) (x : Str) (w : World) (mg : Str → Option Value) (f : Addr) (h : Heap) : Prop :=
  ∃ (K : PySem.W.Frag) (Cc : Ct) (fd : FuncData), K.In h ∧ (∀ z ns, Scr K z ns → Cc [z] [] (Rt (.bl true) [])) ∧ (∀ (s : Shared) (u : Value), BindsTo s fd ⟨[u], []⟩ [(x, u)]) ∧ ∀ base : Heap, FnOk l.prog w K mg base (L2.CX l.prog w) k f fd [x] (spC K Cc)
abbrev LawWalk (l : PySem.W.OpenLaw) (q : Program) (loose : List Str) (XP : (Str → Option Value) → Heap → Prop) (YP : World → Heap → Prop) (d : DefRec) : Prop := PySem.W.WalkO q loose XP YP l.row.toRowW d [] (fun g us => PySem.call g us)
/-- the law's walk, from what the head tells -/
theorem walk_D {l : PySem.W.OpenLaw} {n k : Nat} {q : Program} {loose : List Str} {XP : (Str → Option Value) → Heap → Prop} {YP : World → Heap → Prop} {d : DefRec} {x : Str} (most : l.most = some n) (fits : n ≤ sizeLine)
    (plain : d.params.defaults = []) (room : Room k callerA) (told : ∀ w mg f h, YP w h → h.Ns mainGlobals mg → mg d.name = some (.ref f) → LawIn l k x w mg f h) : LawWalk l q loose XP YP d :=
  Att.attach_call most plain fun w _ _ mg _ f _ _ _ _ arg vs ns G known _ _ _ at_ obj nums short grown => by
    have ⟨K, Cc, fd, inH, keeps, binds, ok⟩ := told w mg f _ known G.T.g at_
    exact law_call inH G.T.g G.T.b G.T.builtins G.T.nolimit grown obj nums (Nat.le_trans short fits) room (fun base _ _ => ok base) binds (fun H _ S => law_sp (fun z hz => keeps z ns hz) S) fun H e s' z => by
      obtain ⟨_, _, _, _, _, _, _, _, _, _, _, _, bad⟩ := z
      exact bad
end DL

/-! DU: tuple * number (own work). -/
namespace DL
open PySem PySem.Spec PyProof.Rows L2
section
open PySem.W
variable {K : PySem.W.Frag} {ro : Ro} {ka k1 k2 : Cells} {te tf : TE}
/-- name op= number -/
theorem g_augI {B F0 : Hp} {ta : List (V × W)} {De : Ends} {i : Nat} {x y z : Int} {ti : TIp} (hi : ro[i]? = some (some (.val (.int x)))) (h : EvD K te ro ka (.val (.int y)) k1) (ht : ∀ H Q, Q (.int z) H → ti (.int x) (.int y) H Q) (k : Gp K B F0 ta De.nx (ro.set i (some (.val (.int z)))) k1) : Gp K B F0 ta (tAug i te ti De) ro ka := fun sg H e => by
  obtain ⟨F, g, ef⟩ := id e
  obtain ⟨v, h1, h2⟩ := ef.sl i _ hi
  have hv : v = .int x := h2
  subst hv
  refine ⟨_, h1, h B F0 ta sg H _ e fun w H1 e1 => ?_⟩
  have hw := e1.tm_int (v := w) (i := y) List.mem_cons_self
  subst hw
  exact ht _ _ (k _ _ ((e1.pop.push_imm (v := .int z) (w := .val (.int z)) fun _ => rfl).set i))
end
end DL

/-! DV: dicts, sorted texts, data compared by < (own work). -/
namespace DL
open PySem L2 PySem.W

/-! ### tables -/
section
variable {κ α β : Type} [DecidableEq κ]
def getT (kvs : List (κ × α)) (k : κ) : Option α := (kvs.find? fun kv => decide (kv.1 = k)).map (·.2)
def hasT (kvs : List (κ × α)) (k : κ) : Bool := kvs.any fun p => decide (p.1 = k)
def newAt (k : κ) (v : α) (p : κ × α) : κ × α := if p.1 = k then (p.1, v) else p
/-- a key that stands keeps its place, a new one comes last -/
def putT (kvs : List (κ × α)) (k : κ) (v : α) : List (κ × α) := if hasT kvs k = true then kvs.map (newAt k v) else kvs ++ [(k, v)]
def dropT (kvs : List (κ × α)) (k : κ) : List (κ × α) := kvs.filter fun kv => decide (kv.1 ≠ k)
/-- tables of the same keys -/
def PT (R : α → β → Prop) : List (κ × α) → List (κ × β) → Prop
  | [], xs => xs = []
  | (k, d) :: ds, xs => ∃ x ys, xs = (k, x) :: ys ∧ R d x ∧ PT R ds ys
variable {R : α → β → Prop}
theorem PT.any : ∀ {ds : List (κ × α)} {xs : List (κ × β)}, PT R ds xs → ∀ k, hasT xs k = hasT ds k
  | [], xs, h, k => by rw [show xs = [] from h]; rfl
  | (k', d) :: ds, xs, h, k => by
    obtain ⟨x, ys, rfl, _, h2⟩ := h
    unfold hasT
    rw [List.any_cons, List.any_cons]
    exact congrArg (fun z => decide (k' = k) || z) (PT.any h2 k)
theorem PT.map (k : κ) {d : α} {x : β} (r : R d x) : ∀ {ds : List (κ × α)} {xs : List (κ × β)}, PT R ds xs → PT R (ds.map (newAt k d)) (xs.map (newAt k x))
  | [], xs, h => by rw [show xs = [] from h]; rfl
  | (k', d') :: ds, xs, h => by
    obtain ⟨x', ys, rfl, h1, h2⟩ := h
    have rest := PT.map k r h2
    by_cases e : k' = k
    · have e1 : newAt k d (k', d') = (k', d) := if_pos e
      have e2 : newAt k x (k', x') = (k', x) := if_pos e
      rw [List.map_cons, e1, List.map_cons, e2]
      exact ⟨x, _, rfl, r, rest⟩
    · have e1 : newAt k d (k', d') = (k', d') := if_neg e
      have e2 : newAt k x (k', x') = (k', x') := if_neg e
      rw [List.map_cons, e1, List.map_cons, e2]
      exact ⟨x', _, rfl, h1, rest⟩
theorem PT.snoc {k : κ} {d : α} {x : β} (r : R d x) : ∀ {ds : List (κ × α)} {xs : List (κ × β)}, PT R ds xs → PT R (ds ++ [(k, d)]) (xs ++ [(k, x)])
  | [], xs, h => by rw [show xs = [] from h]; exact ⟨x, [], rfl, r, rfl⟩
  | (k', d') :: ds, xs, h => by
    obtain ⟨x', ys, rfl, h1, h2⟩ := h
    exact ⟨x', _, rfl, h1, PT.snoc r h2⟩
theorem PT.put {ds : List (κ × α)} {xs : List (κ × β)} (h : PT R ds xs) (k : κ) {d : α} {x : β} (r : R d x) : PT R (putT ds k d) (putT xs k x) := by
  unfold putT
  rw [h.any k]
  split
  · exact h.map k r
  · exact h.snoc r
theorem PT.drop (k : κ) : ∀ {ds : List (κ × α)} {xs : List (κ × β)}, PT R ds xs → PT R (dropT ds k) (dropT xs k)
  | [], xs, h => by rw [show xs = [] from h]; rfl
  | (k', d') :: ds, xs, h => by
    obtain ⟨x', ys, rfl, h1, h2⟩ := h
    unfold dropT
    rw [List.filter_cons, List.filter_cons]
    by_cases e : k' = k
    · rw [if_neg (by simpa using e), if_neg (by simpa using e)]; exact PT.drop k h2
    · rw [if_pos (by simpa using e), if_pos (by simpa using e)]; exact ⟨x', _, rfl, h1, PT.drop k h2⟩
theorem PT.get (k : κ) : ∀ {ds : List (κ × α)} {xs : List (κ × β)}, PT R ds xs → (getT ds k = none → getT xs k = none) ∧ ∀ d, getT ds k = some d → ∃ x, getT xs k = some x ∧ R d x
  | [], xs, h => by rw [show xs = [] from h]; exact ⟨fun _ => rfl, fun d q => by cases q⟩
  | (k', d') :: ds, xs, h => by
    obtain ⟨x', ys, rfl, h1, h2⟩ := h
    by_cases e : k' = k
    · have e1 : getT ((k', d') :: ds) k = some d' := by simp [getT, List.find?_cons, e]
      have e2 : getT ((k', x') :: ys) k = some x' := by simp [getT, List.find?_cons, e]
      rw [e1, e2]
      refine ⟨fun q => (by cases q), fun d q => ?_⟩
      cases q
      exact ⟨x', rfl, h1⟩
    · have e1 : getT ((k', d') :: ds) k = getT ds k := by simp [getT, List.find?_cons, e]
      have e2 : getT ((k', x') :: ys) k = getT ys k := by simp [getT, List.find?_cons, e]
      rw [e1, e2]
      exact PT.get k h2
theorem PT.len : ∀ {ds : List (κ × α)} {xs : List (κ × β)}, PT R ds xs → xs.length = ds.length
  | [], xs, h => by rw [show xs = [] from h]; rfl
  | (k', d') :: ds, xs, h => by
    obtain ⟨x', ys, rfl, h1, h2⟩ := h
    rw [List.length_cons, List.length_cons, PT.len h2]
theorem PT.at : ∀ {ds : List (κ × α)} {xs : List (κ × β)}, PT R ds xs → ∀ {i : Nat} {p : κ × α}, ds[i]? = some p → ∃ x, xs[i]? = some (p.1, x) ∧ R p.2 x
  | [], xs, h, i, p, e => by simp at e
  | (k', d') :: ds, xs, h, 0, p, e => by
    obtain ⟨x', ys, rfl, h1, h2⟩ := h
    cases e
    exact ⟨x', rfl, h1⟩
  | (k', d') :: ds, xs, h, i + 1, p, e => by
    obtain ⟨x', ys, rfl, h1, h2⟩ := h
    exact PT.at h2 (i := i) (by simpa using e)
theorem putT_len (kvs : List (κ × α)) (k : κ) (v : α) : (putT kvs k v).length ≤ kvs.length + 1 := by
  unfold putT
  split
  · rw [List.length_map]; omega
  · rw [List.length_append, List.length_cons, List.length_nil]; omega
end
theorem rpk_pt {K : PySem.W.Frag} {F : Hp} : ∀ {ds : List (Key × D)} {xs : List (Key × V)}, RpK K F ds xs ↔ PT (Rp K F) ds xs
  | [], xs => Iff.rfl
  | (k, d) :: ds, xs => ⟨fun ⟨x, ys, e, h1, h2⟩ => ⟨x, ys, e, h1, rpk_pt.mp h2⟩, fun ⟨x, ys, e, h1, h2⟩ => ⟨x, ys, e, h1, rpk_pt.mpr h2⟩⟩
theorem rpt_pt {K : PySem.W.Frag} {F : Hp} : ∀ {ds : List (List Key × D)} {xs : List (List Key × V)}, RpT K F ds xs ↔ PT (Rp K F) ds xs
  | [], xs => Iff.rfl
  | (k, d) :: ds, xs => ⟨fun ⟨x, ys, e, h1, h2⟩ => ⟨x, ys, e, h1, rpt_pt.mp h2⟩, fun ⟨x, ys, e, h1, h2⟩ => ⟨x, ys, e, h1, rpt_pt.mpr h2⟩⟩
/-- a key as data -/
def kD : Key → D
  | .inl i => .int i
  | .inr s => .str s

section
variable {K : PySem.W.Frag} {B F F0 : Hp} {ro : Ro} {ka k1 k2 k3 kr : Cells} {ta : List (V × W)} {sg : L2.St} {H H' : Hp} {te tf tg tk tv : TE} {tr : TA} {tt tu : TT} {w x y z : W} {n m : Nd} {C dx a : Addr} {b : Bool} {P : L2.St → Hp → Prop} {De : Ends} {t u : TS} {E : XK}
theorem En.tm_key (e : En K B F0 ro ka ta sg H) {v : V} {k : Key} (h : (v, W.val (kD k)) ∈ ta) : v = kV k := by
  cases k with
  | inl i => exact e.tm_int h
  | inr s => exact e.tm_str h
/-! ### a dict that is the def's own, locked while it is walked -/
theorem En.cellAt (e : En K B F0 ro ka ta sg H) {j : Nat} (hj : ka[j]? = some (a, n)) : ∃ F, Gr B F0 F ∧ EnF K B F ro ka ta sg H ∧ NdOk K F H a n := let ⟨F, g, q⟩ := e; ⟨F, g, q, (q.ce _ (List.mem_of_getElem? hj)).2.2⟩
theorem rpl_strs {F : Hp} : ∀ {ss : List Str} {vs : List V}, RpL K F (stD ss) vs → vs = ss.map V.str
  | [], vs, h => h
  | s :: ss, vs, h => by
    obtain ⟨x, ys, rfl, h1, h2⟩ := h
    rw [rpl_strs h2, show x = V.str s from h1]
    rfl
end
end DL

/-! DW: data of any depth: in, < (own work). -/
namespace DL
open PySem L2 PySem.W PySem.SeqAt
mutual
def pdD : D → PyData
  | .bl b => .bool b | .int i => .int i | .str s => .str s
  | .tup ds => .tuple (pdL ds) | .lst ds => .list (pdL ds)
  | _ => .none
def pdL : List D → List PyData
  | [] => []
  | d :: ds => pdD d :: pdL ds
end
section
variable {X : Cx} {pins : List (Addr × Obj)} {sg : L2.St} {H G : Hp} {s : Shared}
end
/-- values of α as data -/
structure Enc (α : Type) [DecidableEq α] [Datum α] (f : α → D) : Prop where
  pd : ∀ a, pdD (f a) = Datum.toD a
  pl : ∀ a, DL.pl 60 (f a) = true
section
variable {K : PySem.W.Frag} {B F F0 : Hp} {ro : Ro} {ka k1 k2 k3 kr : Cells} {ta : List (V × W)} {sg : L2.St} {H H' : Hp} {te tf tg : TE} {w x y z : W}
variable {α : Type} [DecidableEq α]
end

end DL

/-! DX: a dict comprehension stored in a local name on its own line (own work over the hand layer's dc_core). -/
namespace DL
open PySem PySem.Spec PyProof.Rows L2
section
variable {X : Cx} {i : Nat} {y : Str} {py pos spos : Pos} {kx vx tg iter : Expr} {ifs : List Expr} {scope : Scope} {own : List (Str × Nat)} {wi : TI} {g : TG} {tt : TT} {tk tv : TE}
end
end DL

/-! DY: != of two tuples whose items are equal, some by an own == (own work; the equality of the items is the hand layer's EqG). -/
namespace DL
open PySem L2 PySem.SeqAt
section
variable {prog : Program} {w : World}
/-- pair by pair the == says yes, whatever objects it makes on the way; then fin holds -/
def Goes (prog : Program) (w : World) (A : Around) (E : Value → Shared → Prop) (fin : Shared → Prop) : List (Value × Value) → Shared → Prop
  | [], s => fin s
  | p :: r, s => wpAny (model prog w) A (eqBool p.1 p.2) (fun yes s1 => yes = true ∧ Goes prog w A E fin r s1) E s
end
section
variable {X : Cx} {n : Nat} {D : Eqv}
end
end DL
namespace DL
open PySem L2 PySem.W
section
variable {K : PySem.W.Frag} {B F F0 : Hp} {ro : Ro} {ka k1 k2 : Cells} {ta : List (V × W)} {sg : L2.St} {H H' : Hp} {te tf : TE} {C : Addr} {Cc : Ct}
theorem En.ext (e : En K B F0 ro ka ta sg H) (x : L2.Ext H H') : En K B F0 ro ka ta sg H' := by
  obtain ⟨F, g, q⟩ := e
  refine ⟨F, g, q.nz, q.fz.sub x, fun a o h => x _ _ (q.fr _ _ h), q.nd, fun p hp => ?_, q.ln, q.sl, q.tm⟩
  obtain ⟨h1, h2, h3⟩ := q.ce p hp
  refine ⟨h1, h2, ?_⟩
  obtain ⟨a, n⟩ := p
  cases n with
  | lst ds => obtain ⟨xs, e, r⟩ := h3; exact ⟨xs, x _ _ e, r⟩
  | dic ds => obtain ⟨xs, e, r⟩ := h3; exact ⟨xs, x _ _ e, r⟩
  | dit ds => obtain ⟨xs, e, r⟩ := h3; exact ⟨xs, x _ _ e, r⟩
  | ldic o xs ds => obtain ⟨e, r⟩ := h3; exact ⟨x _ _ e, r⟩
  | ins C ds => obtain ⟨dx, xs, e, r⟩ := h3; exact ⟨dx, xs, x _ _ e, r⟩
  | xd ds => obtain ⟨xs, e, r⟩ := h3; exact ⟨xs, x _ _ e, r⟩
  | din w ds => obtain ⟨xs, e, r⟩ := h3; exact ⟨xs, x _ _ e, r⟩
end
end DL

/-! DZ: evaluation by a relation (own work). -/
namespace DL
open PySem L2 PySem.W
/-- te ends with some value and cells of which P tells -/
def EvR (K : PySem.W.Frag) (te : TE) (ro : Ro) (ka : Cells) (P : W → Cells → Prop) : Prop := ∀ B F0 ta sg H (Q : VK), En K B F0 ro ka ta sg H → (∀ w k v H', P w k → En K B F0 ro k ((v, w) :: ta) sg H' → Q v H') → te sg H Q
def RvR (K : PySem.W.Frag) (r : R2) (ka : Cells) (x y : W) (P : W → Cells → Prop) : Prop := ∀ B F0 ro ta sg H u v (Q : VK), En K B F0 ro ka ta sg H → (u, x) ∈ ta → (v, y) ∈ ta → (∀ w k t H', P w k → En K B F0 ro k ((t, w) :: ta) sg H' → Q t H') → r u v H Q
section
variable {K : PySem.W.Frag} {B F F0 : Hp} {ro : Ro} {ka k1 k2 k3 kr : Cells} {ta : List (V × W)} {sg : L2.St} {H H' : Hp} {te tf tg : TE} {tr : TA} {w x y z : W} {n : Nd} {P P2 : W → Cells → Prop} {De : Ends} {u : TS} {E : XK} {r : R2}
theorem EvD.toR (h : EvD K te ro ka w k1) : EvR K te ro ka (fun w' k => w' = w ∧ k = k1) := fun B F0 ta sg H Q e q => h B F0 ta sg H Q e fun v H' e' => q w k1 v H' ⟨rfl, rfl⟩ e'
theorem En.tmA (e : En K B F0 ro ka ta sg H) (a : Addr) : En K B F0 ro ka ((.ref a, .val (.adr a)) :: ta) sg H := e.push_imm fun _ => rfl
theorem EvN.toR (h : EvN K te ro ka n k1) : EvR K te ro ka (fun w' k => ∃ a, w' = .val (.adr a) ∧ k = k1 ++ [(a, n)]) := fun B F0 ta sg H Q e q => h B F0 ta sg H Q e fun a H' e' => q _ _ _ H' ⟨a, rfl, rfl⟩ (e'.tmA a)
theorem EvR.imp (h : EvR K te ro ka P) (i : ∀ w k, P w k → P2 w k) : EvR K te ro ka P2 := fun B F0 ta sg H Q e q => h B F0 ta sg H Q e fun w k v H' p => q w k v H' (i w k p)
theorem RvD.toR (h : RvD K r ka x y z) : RvR K r ka x y (fun w' k => w' = z ∧ k = ka) := fun B F0 ro ta sg H u v Q e h1 h2 q => h B F0 ro ta sg H u v Q e h1 h2 fun t H' e' => q z ka t H' ⟨rfl, rfl⟩ e'
theorem RvN.toR (h : RvN K r ka x y n) : RvR K r ka x y (fun w' k => ∃ a, w' = .val (.adr a) ∧ k = ka ++ [(a, n)]) := fun B F0 ro ta sg H u v Q e h1 h2 q => h B F0 ro ta sg H u v Q e h1 h2 fun a H' e' => q _ _ _ H' ⟨a, rfl, rfl⟩ (e'.tmA a)
theorem RvR.imp (h : RvR K r ka x y P) (i : ∀ w k, P w k → P2 w k) : RvR K r ka x y P2 := fun B F0 ro ta sg H u v Q e h1 h2 q => h B F0 ro ta sg H u v Q e h1 h2 fun w k t H' p => q w k t H' (i w k p)
/-- a call whose end a word tells -/
theorem evr_call {Cc : Ct} {ws : List W} {out : Oc} (kr : Cells) (ha : EvA K tr ro ka ws (k1 ++ kr)) (hC : Cc ws k1 out) (ho : ∀ o k, out o k → ∃ d, o = .ret d) : EvR K (tCall (spC K Cc) [] E tr) ro ka (fun w k => ∃ d k2, out (.ret d) k2 ∧ w = .val d ∧ k = k2 ++ kr) := fun B F0 ta sg H Q e q =>
  ha B F0 ta sg H _ e fun vs H1 hl e1 => by
    rw [List.append_nil]
    exact sp_rel e1 hl hC ho fun d k2 v H' o e2 => q _ _ v H' ⟨d, k2, o, rfl, rfl⟩ e2
theorem EvR.op (h : EvR K te ro ka P) (h2 : ∀ w k, P w k → ∃ y k2, EvD K tf ro k y k2 ∧ RvR K r k2 w y P2) : EvR K (tOp r te tf) ro ka P2 := fun B F0 ta sg H Q e q =>
  h B F0 ta sg H _ e fun w k v H1 p e1 => by
    obtain ⟨y, k2, hb, hr⟩ := h2 w k p
    exact hb B F0 _ sg H1 _ e1 fun v2 H2 e2 => hr B F0 ro _ sg H2 v v2 Q e2 (List.mem_cons_of_mem _ List.mem_cons_self) List.mem_cons_self fun w3 k3 t H3 p3 e3 => q w3 k3 t H3 p3 (e3.held fun z hz => by
      rcases List.mem_cons.mp hz with rfl | hz
      · exact List.mem_cons_self
      · exact List.mem_cons_of_mem _ (List.mem_cons_of_mem _ (List.mem_cons_of_mem _ hz)))
theorem g_asgR {i : Nat} (h : EvR K te ro ka P) (k : ∀ w k1, P w k1 → Gp K B F0 ta De.nx (ro.set i (some w)) k1) : Gp K B F0 ta (tAsg te (gName i) De) ro ka := fun sg H e => h B F0 ta sg H _ e fun w k1 v H1 p e1 => k w k1 p _ _ (e1.set i)
theorem q_asgR {i : Nat} (h : EvR K te ro ka P) (k : ∀ w k1, P w k1 → Gp K B F0 ta (u De) (ro.set i (some w)) k1) : Gp K B F0 ta (tSeq (tAsg te (gName i)) u De) ro ka := g_asgR (De := { De with nx := u De }) h k

/-! ### methods, min -/
theorem evr_meth {Cc : Ct} {ws : List W} {out : Oc} {C : Addr} {m : Str} {fs : List (Str × D)} {b : Bool} (kr : Cells) (h : EvD K te ro ka w k1) (l : Io k1 w C fs b) (hm : fs.lookup m = none) (ha : EvA K tr ro k1 ws (k2 ++ kr)) (hC : Cc (w :: ws) k2 out) (ho : ∀ o k, out o k → ∃ d, o = .ret d) : EvR K (tMeth C m (spC K Cc) [] E te tr) ro ka (fun w' k => ∃ d k3, out (.ret d) k3 ∧ w' = .val d ∧ k = k3 ++ kr) := fun B F0 ta sg H Q e q =>
  h B F0 ta sg H _ e fun v H1 e1 => by
    obtain ⟨F, g, ef⟩ := id e1
    obtain ⟨a, dx, xs, rfl, ha1, rx⟩ := l.get ef (ef.tm _ List.mem_cons_self)
    refine ⟨a, dx, xs, rfl, ha1, rpf_none rx hm, ha B F0 _ sg H1 _ e1 fun vs H2 hl e2 => ?_⟩
    rw [List.append_nil]
    refine sp_rel (ws := w :: ws) (vs := .ref a :: vs) (kr := kr) (ta := ta) (e2.held fun p hp => ?_) (by rw [List.length_cons, List.length_cons, hl]) hC ho fun d k3 v3 H' o e3 => q _ _ v3 H' ⟨d, k3, o, rfl, rfl⟩ e3
    have hp' : p ∈ (V.ref a, w) :: (vs.zip ws ++ ta) := hp
    rcases List.mem_cons.mp hp' with rfl | hp
    · exact List.mem_append_right _ List.mem_cons_self
    · rcases List.mem_append.mp hp with hp | hp
      · exact List.mem_append_left _ hp
      · exact List.mem_append_right _ (List.mem_cons_of_mem _ hp)
theorem EvR.d (h : EvR K te ro ka P) (hP : ∀ w' k, P w' k → w' = w ∧ k = k1) : EvD K te ro ka w k1 := fun B F0 ta sg H Q e q => h B F0 ta sg H Q e fun w' k v H' p e' => by
  obtain ⟨rfl, rfl⟩ := hP w' k p
  exact q v H' e'
/-- a method that works on no cells -/
theorem ev_methP {Cc : Ct} {ws : List W} {C : Addr} {m : Str} {fs : List (Str × D)} {b : Bool} {d : D} (h : EvD K te ro ka w k1) (l : Io k1 w C fs b) (hm : fs.lookup m = none) (ha : EvA K tr ro k1 ws k2) (hC : Cc (w :: ws) [] (Rt d [])) : EvD K (tMeth C m (spC K Cc) [] E te tr) ro ka (.val d) k2 :=
  (evr_meth (k2 := []) k2 h l hm ha hC fun o k ho => ⟨d, ho.1⟩).d fun w' k ⟨d', k3, ho, e1, e2⟩ => by
    obtain ⟨h1, h2⟩ := ho
    cases h1
    exact ⟨e1, by rw [e2, h2]; rfl⟩
theorem inV_strs (s : Str) : ∀ ss : List Str, inV (.str s) (ss.map V.str) = decide (s ∈ ss)
  | [] => rfl
  | t :: ss => by
    show ((t == s) || inV (.str s) (ss.map V.str)) = _
    rw [inV_strs s ss, Bool.eq_iff_iff, Bool.or_eq_true, decide_eq_true_eq, decide_eq_true_eq, List.mem_cons, beq_iff_eq]
    exact ⟨fun h => h.elim (fun q => .inl q.symm) .inr, fun h => h.elim (fun q => .inl q.symm) .inr⟩
theorem all_flat : ∀ ss : List Str, (ss.map V.str).all flatV = true
  | [] => rfl
  | t :: ss => by
    rw [List.map_cons, List.all_cons, all_flat ss]
    rfl
theorem rv_inL {neg tt b : Bool} {s : Str} {ss : List Str} (l : Lk ka y tt (stD ss) b) : RvD K (rIn K neg) ka (.val (.str s)) y (.val (.bl (if neg then !decide (s ∈ ss) else decide (s ∈ ss)))) := fun B F0 ro ta sg H u v Q e h1 h2 q => by
  obtain ⟨F, g, ef⟩ := id e
  have hu := e.tm_str h1
  subst hu
  obtain ⟨a, xs, rfl, s1, r1⟩ := l.get ef (ef.tm _ h2)
  have ex := rpl_strs r1
  subst ex
  refine ⟨a, ss.map V.str, rfl, s1.sq, rfl, all_flat ss, ?_⟩
  rw [inV_strs]
  exact q _ _ (e.push_imm fun _ => rfl)
theorem ev_inL {tt b : Bool} {s : Str} {ss : List Str} (h : EvD K te ro ka (.val (.str s)) k1) (h2 : EvD K tf ro k1 y k2) (l : Lk k2 y tt (stD ss) b) : EvD K (tOp (rInU K) te tf) ro ka (.val (.bl (decide (s ∈ ss)))) k2 := ev_op h h2 (rvd_r (rv_inL (neg := false) l))
theorem ev_niL {tt b : Bool} {s : Str} {ss : List Str} (h : EvD K te ro ka (.val (.str s)) k1) (h2 : EvD K tf ro k1 y k2) (l : Lk k2 y tt (stD ss) b) : EvD K (tOp (rNiU K) te tf) ro ka (.val (.bl (!decide (s ∈ ss)))) k2 := ev_op h h2 (rvd_r (rv_inL (neg := true) l))
theorem ei_map {α : Type} {ts : List α} {f : α → D} (h : EvD K te ro ka (.val (.lst (ts.map f))) k1) : EvI K (iSeq K te) ro ka (ts.map fun t => W.val (f t)) (fun _ => True) k1 := by
  have := ei_seq h .vl
  have e : (ts.map f).map (part false) = ts.map fun t => W.val (f t) := by rw [List.map_map]; rfl
  rw [e] at this
  exact this
theorem ei_strs {ss : List Str} (h : EvD K te ro ka (.val (.lst (stD ss))) k1) : EvI K (iSeq K te) ro ka (ss.map fun s => W.val (.str s)) (fun _ => True) k1 := by
  have := ei_seq h .vl
  unfold stD at this
  rw [List.map_map] at this
  exact this

/-! ### targets -/
/-- the target g takes a value of w: the slots behind it -/
def AsT (K : PySem.W.Frag) (g : TG) (w : W) (ro ro' : Ro) : Prop := ∀ B F0 ka ta sg H v (Q : L2.St → Hp → Prop), En K B F0 ro ka ta sg H → (v, w) ∈ ta → (∀ sg', En K B F0 ro' ka ta sg' H → Q sg' H) → g v sg H Q
def AsL (K : PySem.W.Frag) (t : TGs) (ws : List W) (ro ro' : Ro) : Prop := ∀ B F0 ka ta sg H vs (Q : L2.St → Hp → Prop), En K B F0 ro ka ta sg H → vs.length = ws.length → (∀ p ∈ vs.zip ws, p ∈ ta) → (∀ sg', En K B F0 ro' ka ta sg' H → Q sg' H) → t vs sg H Q
variable {ro' ro2 : Ro} {g : TG} {t : TGs} {ws : List W}
theorem at_n {i : Nat} : AsT K (gName i) w ro (ro.set i (some w)) := fun B F0 ka ta sg H v Q ⟨F, g, e⟩ h q => q _ ⟨F, g, e.set (e.tm _ h) i⟩
theorem al_nil : AsL K gNil [] ro ro := fun B F0 ka ta sg H vs Q e hl h q => ⟨List.eq_nil_of_length_eq_zero hl, q _ e⟩
theorem al_cons (h1 : AsT K g w ro ro2) (h2 : AsL K t ws ro2 ro') : AsL K (gCons g t) (w :: ws) ro ro' := fun B F0 ka ta sg H vs Q e hl h q => by
  cases vs with
  | nil => cases hl
  | cons v r => exact ⟨v, r, rfl, h1 B F0 ka ta sg H v _ e (h _ List.mem_cons_self) fun sg1 e1 => h2 B F0 ka ta sg1 H r Q e1 (by simpa using hl) (fun p hp => h p (List.mem_cons_of_mem _ hp)) q⟩
theorem at_tup {ds : List D} {m : Nat} (hm : ds.length = m) (h : AsL K t (ds.map W.val) ro ro') : AsT K (gTup K m t) (.val (.tup ds)) ro ro' := fun B F0 ka ta sg H v Q e hv q => by
  obtain ⟨F, gr, ef⟩ := id e
  obtain ⟨a, xs, rfl, s1, r1⟩ := Lk.vt.get ef (ef.tm _ hv)
  refine ⟨a, xs, rfl, s1, by rw [rpl_len r1, hm], h B F0 ka (xs.zip (ds.map W.val) ++ ta) sg H xs Q ?_ (by rw [List.length_map, rpl_len r1]) (fun p hp => List.mem_append_left _ hp) fun sg' e' => q sg' (e'.held fun p hp => List.mem_append_right _ hp)⟩
  refine ⟨F, gr, ⟨ef.nz, ef.fz, ef.fr, ef.nd, ef.ce, ef.ln, ef.sl, fun p hp => ?_⟩⟩
  rcases List.mem_append.mp hp with hp | hp
  · have : ∀ (ds : List D) (xs : List V), RpL K F ds xs → ∀ p ∈ xs.zip (ds.map W.val), WOk K B F p.1 p.2 := by
      intro ds
      induction ds with
      | nil => intro xs h p hp; rw [show xs = [] from h] at hp; simp at hp
      | cons d ds ih =>
        intro xs h p hp
        obtain ⟨x, ys, rfl, h1, h2⟩ := h
        rcases List.mem_cons.mp hp with rfl | hp
        · exact h1
        · exact ih ys h2 p hp
    exact this ds xs r1 p hp
  · exact ef.tm p hp
theorem at_t2 {d1 d2 : D} {i j : Nat} : AsT K (gTup K 2 (gCons (gName i) (gCons (gName j) gNil))) (.val (.tup [d1, d2])) ro ((ro.set i (some (.val d1))).set j (some (.val d2))) := at_tup rfl (al_cons at_n (al_cons at_n al_nil))
theorem g_asgT (h : EvD K te ro ka w k1) (a : AsT K g w ro ro') (k : Gp K B F0 ta De.nx ro' k1) : Gp K B F0 ta (tAsg te g De) ro ka := fun sg H e => h B F0 ta sg H _ e fun v H1 e1 => a B F0 k1 _ sg H1 v _ e1 List.mem_cons_self fun sg' e' => k _ _ e'.pop
theorem q_asgT (h : EvD K te ro ka w k1) (a : AsT K g w ro ro') (k : Gp K B F0 ta (u De) ro' k1) : Gp K B F0 ta (tSeq (tAsg te g) u De) ro ka := g_asgT (De := { De with nx := u De }) h a k
/-- a loop whose target is of any form -/
theorem g_forT {wi : TI} {C : Cells → Prop} {tb : TS} (h : EvI K wi ro ka ws C k1) (Inv : Nat → Ro → Cells → Prop) (h0 : Inv 0 ro k1) (hC : ∀ i ro2 ka2, Inv i ro2 ka2 → C ka2)
    (hs : ∀ i w ro2 ka2 ta', ws[i]? = some w → Inv i ro2 ka2 → ∃ ro3, AsT K g w ro2 ro3 ∧ Gp K B F0 ta' (tb { De with nx := Jp K B F0 ta' (Inv (i + 1)), ct := Jp K B F0 ta' (Inv (i + 1)), bk := De.nx }) ro3 ka2)
    (hd : ∀ ro2 ka2 ta', Inv ws.length ro2 ka2 → (∀ p ∈ ta, p ∈ ta') → Gp K B F0 ta' De.nx ro2 ka2) : Gp K B F0 ta (tFor wi g tb De) ro ka :=
  g_for h Inv h0 hC (fun i w ro2 ka2 hw inv ta' sg H e x ex => by
    obtain ⟨ro3, a, gp⟩ := hs i w ro2 ka2 ta' hw inv
    exact a B F0 ka2 _ sg H x _ ex List.mem_cons_self fun sg' e' => gp _ _ e'.pop) hd
theorem q_forT {wi : TI} {C : Cells → Prop} {tb : TS} (h : EvI K wi ro ka ws C k1) (Inv : Nat → Ro → Cells → Prop) (h0 : Inv 0 ro k1) (hC : ∀ i ro2 ka2, Inv i ro2 ka2 → C ka2)
    (hs : ∀ i w ro2 ka2 ta', ws[i]? = some w → Inv i ro2 ka2 → ∃ ro3, AsT K g w ro2 ro3 ∧ Gp K B F0 ta' (tb { De with nx := Jp K B F0 ta' (Inv (i + 1)), ct := Jp K B F0 ta' (Inv (i + 1)), bk := u De }) ro3 ka2)
    (hd : ∀ ro2 ka2 ta', Inv ws.length ro2 ka2 → (∀ p ∈ ta, p ∈ ta') → Gp K B F0 ta' (u De) ro2 ka2) : Gp K B F0 ta (tSeq (tFor wi g tb) u De) ro ka := g_forT (De := { De with nx := u De }) h Inv h0 hC hs hd
end
end DL

/-! ER: a tuple read backwards (own work). -/
namespace DL
open PySem L2 PySem.W PyProof.Rows

section
variable {prog : Program} {w : World} {A : Around} {E : Value → Shared → Prop} {s : Shared}
/-- what a slice object holds -/
theorem slc_flds {j : Addr} {a b c : Value} {R : Value × Value × Value → Shared → Prop} (hj : s.heap.IsSliceOf j a b c) (k : R (a, b, c) s) : wpAny (model prog w) A (Builtin.Slice.sliceFields (.ref j)) R E s := by
  rcases hj with ⟨ob, hob, -, hdt⟩
  have one : ∀ (i : Nat) (x : Value) {S : Value → Shared → Prop}, #[a, b, c][i]? = some x → S x s → wpAny (model prog w) A (field (.ref j) i) S E s := fun i x S hx kx => wpAny_field hob hdt hx kx
  exact wpAny_bind (one 0 a rfl (wpAny_bind (one 1 b rfl (wpAny_bind (one 2 c rfl (wpAny_pure k))))))
theorem places_back (n : Nat) : Builtin.Slice.slicePlaces ((n : Int) - 1) (-1) (-1) = n := by
  rcases Nat.eq_zero_or_pos n with rfl | hp
  · rfl
  · have hlt : (-1 : Int) < (n : Int) - 1 := by omega
    simp only [Builtin.Slice.slicePlaces, show ¬ ((-1 : Int) > 0) by decide, if_false, gt_iff_lt, hlt, if_true, Int.neg_neg, Int.ediv_one]
    omega
/-- no ends, step -1: from the last place to the first -/
theorem slc_back {j : Addr} {a b c : Value} {n : Nat} {R : Int × Int × Nat → Shared → Prop} (hj : s.heap.IsSliceOf j a b c) (ha : IsPart a none) (hb : IsPart b none) (hc : IsPart c (some (-1))) (k : R ((n : Int) - 1, -1, n) s) :
    wpAny (model prog w) A (Builtin.Slice.sliceApplied (.ref j) (pure (n : Int))) R E s := by
  have last : wpAny (model prog w) A (pure ((n : Int) - 1, (-1 : Int), Builtin.Slice.slicePlaces ((n : Int) - 1) (-1) (-1))) R E s := wpAny_pure ((places_back n).symm ▸ k)
  have adj : Builtin.Slice.sliceAdjust none none (-1) (n : Int) = ((n : Int) - 1, -1) := rfl
  exact wpAny_bind (slc_flds hj (wpAny_bind (HT.slicePart_ hc (wpAny_bind (HT.slicePart_ ha (wpAny_bind (HT.slicePart_ hb (wpAny_bind (wpAny_pure last)))))))))
theorem picked_all {α : Type} {g : Nat → Option α} (ys : List α) (h : ∀ m (hm : m < ys.length), g m = some ys[m]) : (List.range ys.length).filterMap g = ys := by
  induction ys generalizing g with
  | nil => rfl
  | cons y r ih =>
    rw [List.length_cons, List.range_succ_eq_map, List.filterMap_cons, h 0 (Nat.succ_pos _), List.filterMap_map]
    exact congrArg (y :: ·) (ih fun m hm => h (m + 1) (Nat.succ_lt_succ hm))
/-- t[::-1] of a tuple object -/
theorem tup_back {t j : Addr} {its : List Value} {a b c : Value} {R : Value → Shared → Prop} (ht : IsTup s.heap t its.toArray) (hz : its.length ≤ sizeLine) (hj : s.heap.IsSliceOf j a b c) (ha : IsPart a none) (hb : IsPart b none) (hc : IsPart c (some (-1)))
    (k : R (.ref s.heap.objs.size) { s with heap := s.heap.push { cls := .type "tuple", data := .seq its.reverse.toArray } }) : wpAny (model prog w) A (getItem (.ref t) (.ref j)) R E s := by
  have hJ : s.TypeIs (.ref j) "slice" := hj.elim fun ob q => ⟨ob, q.1, q.2.1⟩
  have pick : (List.range its.toArray.size).filterMap (fun m : Nat => its.toArray[((its.toArray.size : Int) - 1 + (m : Int) * -1).toNat]?) = its.reverse := by
    have hl : its.toArray.size = its.reverse.length := by rw [List.size_toArray, List.length_reverse]
    rw [hl]
    refine picked_all _ fun m hm => ?_
    have hm' : m < its.length := by rw [List.length_reverse] at hm; exact hm
    rw [List.length_reverse, List.getElem?_toArray, show ((its.length : Int) - 1 + (m : Int) * -1).toNat = its.length - 1 - m by omega, List.getElem?_eq_getElem (by omega), List.getElem_reverse]
  refine wpAny_getItem_slot ht.typeIs (by decide) slot_tuple_getitem (wpAny_call_entry slot_tuple_getitem ht.typeIs entry_tuple_getitem ?_ (args_tuple_getitem _ _))
  refine wpAny_bind (m := Builtin.Tuple.tupleItemsOf (.ref t)) (tupleItemsOf_ ht (wpAny_bind (wpAny_typeOf hJ ?_)))
  rw [if_pos (show (Value.type "slice" == Value.type "slice") = true by decide)]
  refine wpAny_bind (slc_back hj ha hb hc ?_)
  have no : ((its.toArray.size : Int) - 1 == 0 && (-1 : Int) == 1 && its.toArray.size == its.toArray.size) = false := by simp
  simp only [no, Bool.false_eq_true, if_false, pick]
  have new : sizeOk (.seq its.reverse.toArray) := by show its.reverse.toArray.size ≤ sizeLine; rwa [List.size_toArray, List.length_reverse]
  refine wpAny_bind (m := Builtin.Tuple.tupleExact _) ?_
  refine wpAny_mono (Q := fun v s' => v = .ref s.heap.objs.size ∧ s' = { s with heap := s.heap.push { cls := .type "tuple", data := .seq its.reverse.toArray } }) (wpAny_newObj_type ⟨rfl, rfl⟩ new) (fun v s' q => ?_) fun _ _ x => x
  rw [q.1, q.2]
  exact wpAny_pure ⟨_, rfl, k⟩
end
section
variable {X : Cx} {e : Expr} {te : TE} {n : Nat} {pa pb pc pd : Pos}
def tBackT (K : PySem.W.Frag) (te : TE) : TE := fun σ H Q => te σ H fun x H1 => ∃ a xs, x = .ref a ∧ SqT K H1 a xs ∧ ∀ p, H1 p = none → Q (.ref p) (upd H1 p (.tup xs.reverse))
/-- e[::-1], e a tuple -/
theorem pe_backT (he : PE X e te) : PE X (.Subscript e (.Slice none none (some (.UnaryOp .USub (.Constant (.int 1) n pa) pb)) pc) pd) (tBackT X.K te) where
  run pins s σ H Q I h := by
    have step : PO X (some (.UnaryOp .USub (.Constant (.int 1) n pa) pb)) (tPart (tUn (rU fun i => .int (-i)) (tC (.int 1)))) := po_some (pe_un un_neg pe_int)
    apply Subscript_
    apply thn (he.run pins s σ H _ I h)
    rintro v s1 ⟨x, H1, I1, rx, a, xs, rfl, sx, q⟩
    cases rx
    apply wpAny_Slice
    rw [evalPart_none]
    refine wpAny_pure (wpAny_pure ?_)
    refine thn (step.run pins s1 σ H1 (fun o H2 => o = some (-1) ∧ H2 = H1) I1 ⟨1, rfl, -1, rfl, rfl, rfl⟩) ?_
    rintro vs s2 ⟨o, H2, I2, part, rfl, rfl⟩
    have J : Inv X pins σ H2 { s2 with heap := s2.heap.push { cls := .type "slice", data := .fields #[.none, .none, vs] } } := I2.kept (t' := s2.toks) fun _ _ k => Heap.get?_push_of_some _ k
    obtain ⟨its, vals, tup, sz⟩ := J.tuple sx
    have len := vals.length
    refine tail_any (ops := [.ref a, .ref s2.heap.objs.size]) tup.typeIs slot_tuple_getitem.lookup (tup_back tup (by omega) (Heap.IsSliceOf.new _ .none .none vs) .none .none part ?_) (by with_unfolding_all rfl)
    have room : xs.reverse.length ≤ sizeLine := by rwa [List.length_reverse]
    exact ⟨.ref _, _, J.laid (t' := s2.toks) (o := .tup xs.reverse) (fun _ _ k => Heap.get?_push_of_some _ k) (Nat.le_refl _) ⟨room, _, vals.reverse, IsTup.new _ _⟩, rfl, q _ (J.hok.fresh (Nat.le_refl _))⟩
end
theorem ev_backT {K : PySem.W.Frag} {te : TE} {ro : Ro} {ka k1 : Cells} {ds : List D} (ha : EvD K te ro ka (.val (.tup ds)) k1) : EvD K (tBackT K te) ro ka (.val (.tup ds.reverse)) k1 := by
  intro B F0 ta sg H Q en q
  refine ha B F0 ta sg H _ en ?_
  rintro u H1 ⟨F, g, en1⟩
  have tm := en1.tm _ List.mem_cons_self
  obtain ⟨a, xs, rfl, hsq, hrp⟩ := Lk.vt.get en1 tm
  refine ⟨a, xs, rfl, hsq, fun p hp => ?_⟩
  have nw := en1.lay (o := .tup xs.reverse) hp rfl
  have kept := nw.1.held (ta' := ta) fun c hc => List.mem_cons_of_mem _ hc
  exact q _ _ ⟨_, g.trans nw.2, kept.push ⟨p, _, rfl, .inl (.inl upd_same), RpL.mono nw.2.sub.exz en1.nz _ _ (rpl_rev hrp)⟩⟩
end DL

/-! EA: dicts read and written, walked while frozen, objects frozen (own work). -/
namespace DL
open PySem L2 PySem.W

/-- w is a dict of ds; b: viewed -/
inductive Dk (ka : Cells) : W → List (Key × D) → Bool → Prop where
  | v {ds : List (Key × D)} : Dk ka (.val (.dic ds)) ds false
  | w {ds : List (Key × D)} : Dk ka (.vw (.dic ds)) ds true
  | ce {a : Addr} {ds : List (Key × D)} (j : Nat) (h : ka[j]? = some (a, .dic ds)) : Dk ka (.val (.adr a)) ds false
  | cl {a : Addr} {o : Obj} {xs : List (Key × V)} {ds : List (Key × D)} (j : Nat) (h : ka[j]? = some (a, .ldic o xs ds)) : Dk ka (.val (.adr a)) ds false
section
variable {K : PySem.W.Frag} {B B' F F' F0 : Hp} {ro ro' : Ro} {ka k1 k2 k3 kr : Cells} {ta : List (V × W)} {sg sg' : L2.St} {H H' : Hp} {te tf tg td ty tk tv : TE} {tr : TA} {tt tu : TT} {w x y z : W} {n m : Nd} {C dx a : Addr} {b : Bool} {P : L2.St → Hp → Prop} {De : Ends} {t u : TS} {E : XK} {ds : List (Key × D)}
theorem Dk.get {v : V} (l : Dk ka w ds b) (e : EnF K B F ro ka ta sg H) (h : WOk K B F v w) : ∃ a xs, v = .ref a ∧ Rd H a (.dK xs) ∧ RpK K (if b then uni B F else F) ds xs := by
  cases l with
  | v =>
    obtain ⟨a, xs, rfl, h1, h2⟩ := h
    exact ⟨a, xs, rfl, e.fz.rd e.nz h1, h2⟩
  | w =>
    obtain ⟨a, xs, rfl, h1, h2⟩ := h
    exact ⟨a, xs, rfl, (uni_exz e.fz e.fr).rd (uni_nz e.nz) h1, h2⟩
  | ce j hj =>
    obtain rfl : v = .ref _ := h
    obtain ⟨_, _, xs, h1, h2⟩ := e.ce _ (List.mem_of_getElem? hj)
    exact ⟨_, xs, rfl, .inl h1, h2⟩
  | cl j hj =>
    obtain rfl : v = .ref _ := h
    obtain ⟨_, _, h1, h2⟩ := e.ce _ (List.mem_of_getElem? hj)
    exact ⟨_, _, rfl, .inr ⟨_, h1⟩, h2⟩
theorem En.dk {v : V} (l : Dk ka w ds b) (e : En K B F0 ro ka ta sg H) (h : (v, w) ∈ ta) : ∃ F a xs, Gr B F0 F ∧ EnF K B F ro ka ta sg H ∧ v = .ref a ∧ Rd H a (.dK xs) ∧ RpK K (if b then uni B F else F) ds xs := by
  obtain ⟨F, g, ef⟩ := e
  obtain ⟨a, xs, h1, h2, h3⟩ := l.get ef (ef.tm _ h)
  exact ⟨F, a, xs, g, ef, h1, h2, h3⟩
theorem getV {xs : List (Key × V)} {k : Key} : valV xs k = getT xs k := rfl
/-- d[text] -/
theorem ev_dget {s : Str} {d : D} (h : EvD K td ro ka w k1) (h2 : EvD K ty ro k1 (.val (.str s)) k2) (l : Dk k2 w ds b) (hd : getT ds (.inr s) = some d) : EvD K (tDGet td ty) ro ka (part b d) k2 := fun B F0 ta sg H Q e q =>
  h B F0 ta sg H _ e fun u H1 e1 => h2 B F0 _ sg H1 _ e1 fun v H2 e2 => by
    have hv := e2.tm_str (v := v) (i := s) List.mem_cons_self
    subst hv
    obtain ⟨F, a, xs, g, ef, rfl, h3, h4⟩ := e2.dk l (List.mem_cons_of_mem _ List.mem_cons_self)
    obtain ⟨x, hx, rx⟩ := ((rpk_pt.mp h4).get (.inr s)).2 d hd
    refine ⟨a, x, rfl, .inl ⟨xs, .inr s, h3, rfl, ?_⟩, q _ _ ⟨F, g, ?_⟩⟩
    · rw [getV, hx]
    · exact (ef.held (ta' := ta) fun p hp => List.mem_cons_of_mem _ (List.mem_cons_of_mem _ hp)).push (wok_part b rx)
theorem ev_dgetV {s : Str} {d : D} (h : EvD K td ro ka w k1) (h2 : EvD K ty ro k1 (.val (.str s)) k2) (l : Dk k2 w ds false) (hd : getT ds (.inr s) = some d) : EvD K (tDGet td ty) ro ka (.val d) k2 := ev_dget h h2 l hd
/-- text in d -/
theorem ev_din {s : Str} (h : EvD K ty ro ka (.val (.str s)) k1) (h2 : EvD K td ro k1 w k2) (l : Dk k2 w ds b) : EvD K (tDIn ty td) ro ka (.val (.bl (getT ds (.inr s)).isSome)) k2 := fun B F0 ta sg H Q e q =>
  h B F0 ta sg H _ e fun u H1 e1 => h2 B F0 _ sg H1 _ e1 fun v H2 e2 => by
    have hv := e2.tm_str (v := u) (i := s) (List.mem_cons_of_mem _ List.mem_cons_self)
    subst hv
    obtain ⟨F, a, xs, g, ef, rfl, h3, h4⟩ := e2.dk l List.mem_cons_self
    have hg := (rpk_pt.mp h4).get (.inr s)
    refine ⟨a, getT xs (.inr s), rfl, .inl ⟨xs, .inr s, h3, rfl, rfl⟩, q _ _ ?_⟩
    have e5 := (e2.held (ta' := ta) fun p hp => List.mem_cons_of_mem _ (List.mem_cons_of_mem _ hp)).push_imm (v := .bl (getT xs (.inr s)).isSome) (w := .val (.bl (getT xs (.inr s)).isSome)) fun _ => rfl
    cases hd : getT ds (.inr s) with
    | none => rw [hg.1 hd] at e5 ⊢; exact e5
    | some d =>
      obtain ⟨x, hx, _⟩ := hg.2 d hd
      rw [hx] at e5 ⊢
      exact e5
theorem ev_dni {s : Str} (h : EvD K ty ro ka (.val (.str s)) k1) (h2 : EvD K td ro k1 w k2) (l : Dk k2 w ds b) : EvD K (tDNotIn ty td) ro ka (.val (.bl (!(getT ds (.inr s)).isSome))) k2 := fun B F0 ta sg H Q e q =>
  h B F0 ta sg H _ e fun u H1 e1 => h2 B F0 _ sg H1 _ e1 fun v H2 e2 => by
    have hv := e2.tm_str (v := u) (i := s) (List.mem_cons_of_mem _ List.mem_cons_self)
    subst hv
    obtain ⟨F, a, xs, g, ef, rfl, h3, h4⟩ := e2.dk l List.mem_cons_self
    have hg := (rpk_pt.mp h4).get (.inr s)
    refine ⟨a, getT xs (.inr s), rfl, .inl ⟨xs, .inr s, h3, rfl, rfl⟩, q _ _ ?_⟩
    have e5 := (e2.held (ta' := ta) fun p hp => List.mem_cons_of_mem _ (List.mem_cons_of_mem _ hp)).push_imm (v := .bl (!(getT xs (.inr s)).isSome)) (w := .val (.bl (!(getT xs (.inr s)).isSome))) fun _ => rfl
    cases hd : getT ds (.inr s) with
    | none => rw [hg.1 hd] at e5 ⊢; exact e5
    | some d =>
      obtain ⟨x, hx, _⟩ := hg.2 d hd
      rw [hx] at e5 ⊢
      exact e5
/-- d[text] = v -/
theorem g_dput {s : Str} {d : D} {j : Nat} (hv : EvD K tv ro ka (.val d) k1) (ho : EvD K td ro k1 (.val (.adr a)) k2) (hi : EvD K ty ro k2 (.val (.str s)) k3) (hj : k3[j]? = some (a, .dic ds)) (hz : ds.length < 100000)
    (k : Gp K B F0 ta De.nx ro (k3.set j (a, .dic (putT ds (.inr s) d)))) : Gp K B F0 ta (sDPut td ty tv De) ro ka := fun sg H e =>
  hv B F0 ta sg H _ e fun v H1 e1 => ho B F0 _ sg H1 _ e1 fun u H2 e2 => hi B F0 _ sg H2 _ e2 fun y H3 e3 => by
    have hy := e3.tm_str (v := y) (i := s) List.mem_cons_self
    have hu := e3.tm_adr (v := u) (a := a) (List.mem_cons_of_mem _ List.mem_cons_self)
    subst hy hu
    obtain ⟨F, g, ef, xs, hx, rx⟩ := e3.cellAt hj
    have hvd := ef.tm (v, .val d) (List.mem_cons_of_mem _ (List.mem_cons_of_mem _ List.mem_cons_self))
    refine ⟨a, _, rfl, .inl ⟨xs, .inr s, hx, rfl, ?_, rfl⟩, k _ _ ⟨F, g, ?_⟩⟩
    · rw [(rpk_pt.mp rx).len]
      exact Nat.lt_of_lt_of_le hz (by decide : 100000 ≤ sizeLine)
    · exact (ef.write (o := .dK (putK xs (.inr s) v)) (n' := .dic (putT ds (.inr s) d)) hj ⟨_, upd_same, rpk_pt.mpr ((rpk_pt.mp rx).put (.inr s) hvd)⟩).held fun p hp => List.mem_cons_of_mem _ (List.mem_cons_of_mem _ (List.mem_cons_of_mem _ hp))
theorem q_dput {s : Str} {d : D} {j : Nat} (hv : EvD K tv ro ka (.val d) k1) (ho : EvD K td ro k1 (.val (.adr a)) k2) (hi : EvD K ty ro k2 (.val (.str s)) k3) (hj : k3[j]? = some (a, .dic ds)) (hz : ds.length < 100000)
    (k : Gp K B F0 ta (u De) ro (k3.set j (a, .dic (putT ds (.inr s) d)))) : Gp K B F0 ta (tSeq (sDPut td ty tv) u De) ro ka := g_dput (De := { De with nx := u De }) hv ho hi hj hz k
/-- {} -/
theorem evn_dnew : EvN K tDNewK ro ka (.dic []) ka := fun B F0 ta sg H Q e q => fun p hp => by
  obtain ⟨F, g, e⟩ := e
  exact q p _ ⟨F, g, e.cell (o := .dK []) hp (n := .dic []) ⟨[], upd_same, rfl⟩⟩
/-- {text: v} -/
theorem evn_disp1 {s : Str} {d : D} (hk : EvD K tk ro ka (.val (.str s)) k1) (hv : EvD K tv ro k1 (.val d) k2) : EvN K (tDisp [(tk, tv)]) ro ka (.dic [(.inr s, d)]) k2 := fun B F0 ta sg H Q e q => fun p hp => by
  obtain ⟨F, g, e⟩ := e
  have e1 : En K B F0 ro (ka ++ [(p, .dic [])]) ta sg (upd H p (.dK [])) := ⟨F, g, e.cell (o := .dK []) hp (n := .dic []) ⟨[], upd_same, rfl⟩⟩
  refine hk.fr [(p, .dic [])] B F0 ta sg _ _ e1 fun x H1 e2 => ?_
  have hx := e2.tm_str (v := x) (i := s) List.mem_cons_self
  subst hx
  refine hv.fr [(p, .dic [])] B F0 _ sg _ _ e2 fun y H2 e3 => ?_
  have hj : (k2 ++ [(p, Nd.dic [])])[k2.length]? = some (p, Nd.dic []) := by simp
  obtain ⟨F2, g2, ef, xs, hx2, rx⟩ := e3.cellAt hj
  obtain rfl : xs = [] := rx
  have hvd := ef.tm (y, .val d) List.mem_cons_self
  refine ⟨hx2, [(.inr s, y)], rfl, (by show 1 ≤ 15; decide), q p _ ⟨F2, g2, ?_⟩⟩
  have e4 := ef.write (o := .dK [(.inr s, y)]) (n' := .dic [(.inr s, d)]) hj ⟨_, upd_same, ⟨y, [], rfl, hvd, rfl⟩⟩
  rw [List.set_append_right _ _ (Nat.le_refl _), Nat.sub_self] at e4
  exact e4.held fun p hp => List.mem_cons_of_mem _ (List.mem_cons_of_mem _ hp)

/-! ### a frozen dict is walked -/
/-- what stands at a path of fields stays the same while things are locked -/
def EvP (K : PySem.W.Frag) (te : TE) (ro : Ro) (w : W) : Prop := ∀ B F ka ta sg H, EnF K B F ro ka ta sg H → ∃ v, WOk K B F v w ∧ ∀ H' (Q : VK), (∀ a u, H a = some u → lk u = false → H' a = some u) → Q v H' → te sg H' Q
theorem evp_var {i : Nat} (h : ro[i]? = some (some w)) : EvP K (tVar i) ro w := fun B F ka ta sg H e => by
  obtain ⟨v, h1, h2⟩ := e.sl i w h
  exact ⟨v, h2, fun H' Q _ q => ⟨v, h1, q⟩⟩
theorem evp_fld {f : Str} {d : D} {fs : List (Str × D)} (h : EvP K te ro (.val (.ins C fs))) (c : Cls K C) (nf : NoAttr K C f) (hd : fs.lookup f = some d) : EvP K (tFld K te f) ro (.val d) := fun B F ka ta sg H e => by
  obtain ⟨v, h1, h2⟩ := h B F ka ta sg H e
  obtain ⟨a, dx, xs, rfl, h3, h4⟩ := h1
  obtain ⟨x, hx, rx⟩ := rpf_lookup h4 hd
  have h5 := rd_ins e.nz e.fz h3
  exact ⟨x, rx, fun H' Q hH q => h2 H' _ hH ⟨a, C, dx, xs, x, rfl, hH a _ h5 rfl, c, nf, hx, q⟩⟩
theorem uni_upd {o : Obj} {u : HO} (hl : lk u = true) (h : F a = some u ∨ B a = some u) : uni (upd B a (.frz o u)) F = uni B F := by
  funext c
  unfold uni
  cases q : F c with
  | some x => rfl
  | none =>
    by_cases hc : c = a
    · subst hc
      rw [upd_same]
      rcases h with h | h
      · rw [h] at q; cases q
      · rw [h]
        simp only [hl, if_true]
        cases u <;> first | rfl | cases hl
    · rw [upd_ne hc]
/-- a frozen thing is locked for a while -/
theorem EnF.lockF {o : Obj} {u : HO} (e : EnF K B F ro ka ta sg H) (hF : F a = some u) (hl : lk u = true) (hH : H a = some u ∨ H a = some (.frz o u)) : EnF K (upd B a (.frz o u)) F ro ka ta sg (upd H a (.frz o u)) := by
  have wk : ∀ {v : V} {w : W}, WOk K B F v w → WOk K (upd B a (.frz o u)) F v w := fun {v w} h => by
    cases w with
    | val d => exact h
    | vw d =>
      show Rp K (uni (upd B a (.frz o u)) F) d v
      rw [uni_upd hl (.inl hF)]
      exact h
  refine ⟨e.nz, fun c x h => ?_, fun c x h => ?_, e.nd, fun p hp => ?_, e.ln, fun i w h => ?_, fun p hp => wk (e.tm p hp)⟩
  · by_cases hc : c = a
    · subst hc
      rw [hF] at h
      cases h
      exact .inr ⟨hl, o, upd_same⟩
    · rcases e.fz c x h with q | ⟨q1, q2, q3⟩
      · exact .inl (by rw [upd_ne hc]; exact q)
      · exact .inr ⟨q1, q2, by rw [upd_ne hc]; exact q3⟩
  · by_cases hc : c = a
    · subst hc; rw [upd_same] at h ⊢; exact h
    · rw [upd_ne hc] at h ⊢; exact e.fr c x h
  · obtain ⟨h1, h2, h3⟩ := e.ce p hp
    have hc : p.1 ≠ a := fun z => by rw [z, hF] at h1; cases h1
    exact ⟨h1, by rw [upd_ne hc]; exact h2, ndok_at (upd_ne hc) h3⟩
  · obtain ⟨v, h1, h2⟩ := e.sl i w h
    exact ⟨v, h1, wk h2⟩
/-- .. and back: B stands as before -/
theorem EnF.unlockF {o : Obj} {u : HO} (e : EnF K (upd B a (.frz o u)) F ro ka ta sg H) (hF : F a = some u) (hl : lk u = true) {x : HO} (hx : x = u ∨ x = .frz o u) (hB : ∀ y, B a = some y → y = x) : EnF K B F ro ka ta sg (upd H a x) := by
  have wk : ∀ {v : V} {w : W}, WOk K (upd B a (.frz o u)) F v w → WOk K B F v w := fun {v w} h => by
    cases w with
    | val d => exact h
    | vw d =>
      have h' : Rp K (uni (upd B a (.frz o u)) F) d v := h
      rw [uni_upd hl (.inl hF)] at h'
      exact h'
  refine ⟨e.nz, fun c y h => ?_, fun c y h => ?_, e.nd, fun p hp => ?_, e.ln, fun i w h => ?_, fun p hp => wk (e.tm p hp)⟩
  · by_cases hc : c = a
    · subst hc
      rw [hF] at h
      cases h
      rcases hx with rfl | rfl
      · exact .inl upd_same
      · exact .inr ⟨hl, o, upd_same⟩
    · rcases e.fz c y h with q | ⟨q1, q2, q3⟩
      · exact .inl (by rw [upd_ne hc]; exact q)
      · exact .inr ⟨q1, q2, by rw [upd_ne hc]; exact q3⟩
  · by_cases hc : c = a
    · subst hc; rw [upd_same, hB y h]
    · rw [upd_ne hc]; exact e.fr c y (by rw [upd_ne hc]; exact h)
  · obtain ⟨h1, h2, h3⟩ := e.ce p hp
    have hc : p.1 ≠ a := fun z => by rw [z, hF] at h1; cases h1
    rw [upd_ne hc] at h2
    exact ⟨h1, h2, ndok_at (upd_ne hc) h3⟩
  · obtain ⟨v, h1, h2⟩ := e.sl i w h
    exact ⟨v, h1, wk h2⟩
end
end DL

/-! EB: loops and comprehensions over frozen dicts (own work). -/
namespace DL
open PySem L2 PySem.W
def tLkS (t : TS) : TS := fun D σ H => t D σ H ∨ tLock t D σ H
def tLkE (t : TE) : TE := fun σ H Q => t σ H Q ∨ tLockE t σ H Q
theorem ps_lkS {X : Cx} {st : Stmt} {t : TS} (h : PS X st t) : PS X st (tLkS t) := ⟨fun pins s σ H D I q => q.elim (h.run pins s σ H D I) ((ps_lock h).run pins s σ H D I)⟩
theorem pe_lkE {X : Cx} {e : Expr} {t : TE} (h : PE X e t) : PE X e (tLkE t) := ⟨fun pins s σ H Q I q => q.elim (h.run pins s σ H Q I) ((pe_lock h).run pins s σ H Q I)⟩
/-- what is walked, at one state -/
def EvIat (K : PySem.W.Frag) (B F0 : Hp) (wi : TI) (ro : Ro) (ws : List W) (C : Cells → Prop) (ka' : Cells) (ta : List (V × W)) (sg : L2.St) (H : Hp) : Prop := ∀ (R : It → Hp → Prop),
  (∀ J ta' H', (∀ p ∈ ta, p ∈ ta') → En K B F0 ro ka' ta' sg H' →
    (∀ i w ro2 ka2 ta2 sg2 H2, ws[i]? = some w → C ka2 → (∀ p ∈ ta', p ∈ ta2) → En K B F0 ro2 ka2 ta2 sg2 H2 → J.go i H2 ∧ ∀ x H3, J.yld i H2 x H3 → En K B F0 ro2 ka2 ((x, w) :: ta2) sg2 H3) →
    (∀ i ro2 ka2 ta2 sg2 H2, ws.length ≤ i → C ka2 → (∀ p ∈ ta', p ∈ ta2) → En K B F0 ro2 ka2 ta2 sg2 H2 → J.stop i H2) → R J H') → wi sg H R
section
variable {K : PySem.W.Frag} {B F F0 : Hp} {ro : Ro} {ka k1 k2 k3 kr : Cells} {ta : List (V × W)} {sg : L2.St} {H H' : Hp} {te tf tg tk tv : TE} {tr : TA} {tt tu : TT} {w x y z : W} {n m : Nd} {C dx a : Addr} {b : Bool} {P : L2.St → Hp → Prop} {De : Ends} {t u : TS} {E : XK}
theorem lc_at {wi : TI} {ws : List W} {C : Cells → Prop} {j : Nat} {vs : List Nat} {Q : VK} (e : En K B F0 ro ka ta sg H) (h : EvIat K B F0 wi ro ws C k1 ta sg H) (hj : j ∈ vs) (hn : ws.length ≤ 1000000) (Inv : Nat → List D → Cells → Prop) (h0 : Inv 0 [] k1) (hC : ∀ i acc k, Inv i acc k → C k ∧ ∀ x, C (k ++ [x]))
    (hs : ∀ i w acc k, ws[i]? = some w → Inv i acc k → (∃ k2, EvT K tt ((wipeR ro vs).set j (some w)) k false k2 ∧ Inv (i + 1) acc k2) ∨ ∃ k2 k3 d, EvT K tt ((wipeR ro vs).set j (some w)) k true k2 ∧ EvD K te ((wipeR ro vs).set j (some w)) k2 (.val d) k3 ∧ Inv (i + 1) (acc ++ [d]) k3)
    (q : ∀ n k a H', (∃ acc, n = .lst acc ∧ Inv ws.length acc k) → En K B F0 ro (k ++ [(a, n)]) ta sg H' → Q (.ref a) H') : tLc wi (gName j) tt te vs sg H Q :=
  h _ fun J ta' H1 hta e1 hgo hst => fun Dl hD => by
    -- the word: the list so far is the last cell
    let P : Nat → Hp → Prop := fun i H => ∃ acc k, Inv i acc k ∧ acc.length ≤ i ∧ En K B F0 ro (k ++ [(Dl, .lst acc)]) ta' sg H
    have p0 : P 0 (upd H1 Dl (.lst [])) := by
      obtain ⟨F, g, e1⟩ := e1
      exact ⟨[], k1, h0, Nat.le_refl _, F, g, e1.cell (o := .lst []) hD (n := .lst []) ⟨[], upd_same, rfl⟩⟩
    refine ⟨fun i m H => m = ws.length - i ∧ i ≤ ws.length ∧ P i H, ⟨ws.length, by simp, Nat.zero_le _, p0⟩, ?_⟩
    rintro i m H2 ⟨rfl, hi, acc, k, inv, hlen, e2⟩
    by_cases hlt : i < ws.length
    · have hw := List.getElem?_eq_getElem hlt
      obtain ⟨g1, g2⟩ := hgo i ws[i] ro (k ++ [(Dl, .lst acc)]) ta' sg H2 hw ((hC i acc k inv).2 _) (fun p hp => hp) e2
      refine .inr ⟨g1, P (i + 1), fun H' p => ⟨ws.length - (i + 1), by omega, rfl, hlt, p⟩, fun x H3 y => ?_⟩
      have e3 := g2 x H3 y
      refine ⟨wipe_set sg vs hj x, ?_⟩
      -- within the block
      have e4 : En K B F0 ((wipeR ro vs).set j (some ws[i])) (k ++ [(Dl, .lst acc)]) ta' ((wipe sg vs).set j (some x)) H3 := by
        obtain ⟨F, g, e3⟩ := e3
        exact ⟨F, g, ((wipe_en (vs := vs) e3).set (e3.tm _ List.mem_cons_self) j).held fun p hp => List.mem_cons_of_mem _ hp⟩
      -- and back out of it
      have out : ∀ {k : Cells} {ta2 : List (V × W)} {H : Hp}, (∃ F, Gr B F0 F ∧ EnF K B F ((wipeR ro vs).set j (some ws[i])) k ta2 ((wipe sg vs).set j (some x)) H ∧ ∀ (a : Nat) w, ro[a]? = some (some w) → ∃ v, sg[a]? = some (some v) ∧ WOk K B F v w) → En K B F0 ro k ta2 sg H := fun ⟨F, g, q, hs⟩ => ⟨F, g, q.frame (by obtain ⟨_, _, e0⟩ := e; exact e0.ln) hs⟩
      obtain ⟨F3, gF3, eF3⟩ := e3
      have slots : ∀ {F : Hp}, Gr B F3 F → ∀ (a : Nat) w, ro[a]? = some (some w) → ∃ v, sg[a]? = some (some v) ∧ WOk K B F v w := fun {F} g a w ha => by
        obtain ⟨v, h1, h2⟩ := eF3.sl a w ha
        exact ⟨v, h1, wok_gr eF3.nz g h2⟩
      have e4' : En K B F3 ((wipeR ro vs).set j (some ws[i])) (k ++ [(Dl, .lst acc)]) ta' ((wipe sg vs).set j (some x)) H3 :=
        ⟨F3, Gr.refl _ _, ((wipe_en (vs := vs) eF3).set (eF3.tm _ List.mem_cons_self) j).held fun p hp => List.mem_cons_of_mem _ hp⟩
      rcases hs i ws[i] acc k hw inv with ⟨k2, t1, inv2⟩ | ⟨k2, k3, d, t1, t2, inv2⟩
      · refine t1.fr [(Dl, .lst acc)] B F3 ta' _ H3 _ e4' fun H4 ⟨F4, g4, e5⟩ => ?_
        exact ⟨acc, k2, inv2, Nat.le_succ_of_le hlen, out ⟨F4, gF3.trans g4, e5, slots g4⟩⟩
      · refine t1.fr [(Dl, .lst acc)] B F3 ta' _ H3 _ e4' fun H4 e5 => ?_
        refine t2.fr [(Dl, .lst acc)] B F3 ta' _ H4 _ e5 fun v H5 ⟨F5, g5, e6⟩ => ?_
        have hx : (k3 ++ [(Dl, Nd.lst acc)])[k3.length]? = some (Dl, Nd.lst acc) := by simp
        obtain ⟨xs, h1, h2⟩ := e6.rd_lst hx
        have hv := e6.tm _ List.mem_cons_self
        have e7 := e6.write (o := .lst (xs ++ [v])) (n' := .lst (acc ++ [d])) hx ⟨_, upd_same, rpl_app h2 ⟨v, [], rfl, hv, rfl⟩⟩
        have hset : (k3 ++ [(Dl, Nd.lst acc)]).set k3.length (Dl, Nd.lst (acc ++ [d])) = k3 ++ [(Dl, Nd.lst (acc ++ [d]))] := by
          rw [List.set_append_right _ _ (Nat.le_refl _)]
          simp
        rw [hset] at e7
        refine ⟨xs, h1, by rw [rpl_len h2]; exact Nat.lt_of_le_of_lt (Nat.le_trans hlen (Nat.le_trans hi hn)) (by decide), acc ++ [d], k3, inv2, by rw [List.length_append]; exact Nat.succ_le_succ hlen, ?_⟩
        exact out ⟨F5, gF3.trans g5, e7.held fun p hp => List.mem_cons_of_mem _ hp, slots g5⟩
    · have ei : i = ws.length := by omega
      subst ei
      refine .inl ⟨hst _ ro (k ++ [(Dl, .lst acc)]) ta' sg H2 (Nat.le_refl _) ((hC _ acc k inv).2 _) (fun p hp => hp) e2, ?_⟩
      exact q _ _ Dl H2 ⟨acc, rfl, inv⟩ (e2.held hta)
theorem dc_at {wi : TI} {ws : List W} {C : Cells → Prop} {j : Nat} {vs : List Nat} {Q : VK} (e : En K B F0 ro ka ta sg H) (h : EvIat K B F0 wi ro ws C k1 ta sg H) (hj : j ∈ vs) (hn : ws.length ≤ 1000000) (Inv : Nat → List (Key × D) → Cells → Prop) (h0 : Inv 0 [] k1) (hC : ∀ i acc k, Inv i acc k → C k ∧ ∀ x, C (k ++ [x]))
    (hs : ∀ i w acc k, ws[i]? = some w → Inv i acc k → (∃ k2, EvT K tt ((wipeR ro vs).set j (some w)) k false k2 ∧ Inv (i + 1) acc k2) ∨ ∃ k2 k3 k4 c d, EvT K tt ((wipeR ro vs).set j (some w)) k true k2 ∧ EvD K tk ((wipeR ro vs).set j (some w)) k2 (.val (kD c)) k3 ∧ EvD K tv ((wipeR ro vs).set j (some w)) k3 (.val d) k4 ∧ Inv (i + 1) (putT acc c d) k4)
    (q : ∀ n k a H', (∃ acc, n = .dic acc ∧ Inv ws.length acc k) → En K B F0 ro (k ++ [(a, n)]) ta sg H' → Q (.ref a) H') : tDc wi (gName j) tt tk tv vs sg H Q :=
  h _ fun J ta' H1 hta e1 hgo hst => fun Dl hD => by
    let P : Nat → Hp → Prop := fun i H => ∃ acc k, Inv i acc k ∧ acc.length ≤ i ∧ En K B F0 ro (k ++ [(Dl, .dic acc)]) ta' sg H
    have p0 : P 0 (upd H1 Dl (.dK [])) := by
      obtain ⟨F, g, e1⟩ := e1
      exact ⟨[], k1, h0, Nat.le_refl _, F, g, e1.cell (o := .dK []) hD (n := .dic []) ⟨[], upd_same, rfl⟩⟩
    refine ⟨fun i m H => m = ws.length - i ∧ i ≤ ws.length ∧ P i H, ⟨ws.length, by simp, Nat.zero_le _, p0⟩, ?_⟩
    rintro i m H2 ⟨rfl, hi, acc, k, inv, hlen, e2⟩
    by_cases hlt : i < ws.length
    · have hw := List.getElem?_eq_getElem hlt
      obtain ⟨g1, g2⟩ := hgo i ws[i] ro (k ++ [(Dl, .dic acc)]) ta' sg H2 hw ((hC i acc k inv).2 _) (fun p hp => hp) e2
      refine .inr ⟨g1, P (i + 1), fun H' p => ⟨ws.length - (i + 1), by omega, rfl, hlt, p⟩, fun x H3 y => ?_⟩
      have e3 := g2 x H3 y
      refine ⟨wipe_set sg vs hj x, ?_⟩
      have out : ∀ {k : Cells} {ta2 : List (V × W)} {H : Hp}, (∃ F, Gr B F0 F ∧ EnF K B F ((wipeR ro vs).set j (some ws[i])) k ta2 ((wipe sg vs).set j (some x)) H ∧ ∀ (a : Nat) w, ro[a]? = some (some w) → ∃ v, sg[a]? = some (some v) ∧ WOk K B F v w) → En K B F0 ro k ta2 sg H := fun ⟨F, g, q, hs⟩ => ⟨F, g, q.frame (by obtain ⟨_, _, e0⟩ := e; exact e0.ln) hs⟩
      obtain ⟨F3, gF3, eF3⟩ := e3
      have slots : ∀ {F : Hp}, Gr B F3 F → ∀ (a : Nat) w, ro[a]? = some (some w) → ∃ v, sg[a]? = some (some v) ∧ WOk K B F v w := fun {F} g a w ha => by
        obtain ⟨v, h1, h2⟩ := eF3.sl a w ha
        exact ⟨v, h1, wok_gr eF3.nz g h2⟩
      have e4' : En K B F3 ((wipeR ro vs).set j (some ws[i])) (k ++ [(Dl, .dic acc)]) ta' ((wipe sg vs).set j (some x)) H3 :=
        ⟨F3, Gr.refl _ _, ((wipe_en (vs := vs) eF3).set (eF3.tm _ List.mem_cons_self) j).held fun p hp => List.mem_cons_of_mem _ hp⟩
      rcases hs i ws[i] acc k hw inv with ⟨k2, t1, inv2⟩ | ⟨k2, k3, k4, c, d, t1, t2, t3, inv2⟩
      · refine t1.fr [(Dl, .dic acc)] B F3 ta' _ H3 _ e4' fun H4 ⟨F4, g4, e5⟩ => ?_
        exact ⟨acc, k2, inv2, Nat.le_succ_of_le hlen, out ⟨F4, gF3.trans g4, e5, slots g4⟩⟩
      · refine t1.fr [(Dl, .dic acc)] B F3 ta' _ H3 _ e4' fun H4 e5 => ?_
        refine t2.fr [(Dl, .dic acc)] B F3 ta' _ H4 _ e5 fun u H5 e6 => ?_
        have hu := e6.tm_key (v := u) (k := c) List.mem_cons_self
        refine t3.fr [(Dl, .dic acc)] B F3 _ _ H5 _ e6 fun v H6 ⟨F5, g5, e7⟩ => ?_
        have hx : (k4 ++ [(Dl, Nd.dic acc)])[k4.length]? = some (Dl, Nd.dic acc) := by simp
        obtain ⟨xs, h1, h2⟩ := (e7.ce _ (List.mem_of_getElem? hx)).2.2
        have hv := e7.tm _ List.mem_cons_self
        have e8 := e7.write (o := .dK (putK xs c v)) (n' := .dic (putT acc c d)) hx ⟨_, upd_same, rpk_pt.mpr ((rpk_pt.mp h2).put c hv)⟩
        have hset : (k4 ++ [(Dl, Nd.dic acc)]).set k4.length (Dl, Nd.dic (putT acc c d)) = k4 ++ [(Dl, Nd.dic (putT acc c d))] := by
          rw [List.set_append_right _ _ (Nat.le_refl _)]
          simp
        rw [hset] at e8
        refine ⟨xs, c, hu, h1, by rw [(rpk_pt.mp h2).len]; exact Nat.lt_of_le_of_lt (Nat.le_trans hlen (Nat.le_trans hi hn)) (by decide), putT acc c d, k4, inv2, Nat.le_trans (putT_len _ _ _) (Nat.succ_le_succ hlen), ?_⟩
        exact out ⟨F5, gF3.trans g5, e8.held fun p hp => List.mem_cons_of_mem _ (List.mem_cons_of_mem _ hp), slots g5⟩
    · have ei : i = ws.length := by omega
      subst ei
      refine .inl ⟨hst _ ro (k ++ [(Dl, .dic acc)]) ta' sg H2 (Nat.le_refl _) ((hC _ acc k inv).2 _) (fun p hp => hp) e2, ?_⟩
      exact q _ _ Dl H2 ⟨acc, rfl, inv⟩ (e2.held hta)


theorem keys_of {ds : List (Key × D)} {xs : List (Key × V)} (h : RpK K F ds xs) : xs.map (·.1) = ds.map (·.1) := by
  induction ds generalizing xs with
  | nil => rw [show xs = [] from h]; rfl
  | cons p ds ih =>
    obtain ⟨k, d⟩ := p
    obtain ⟨x, ys, rfl, _, h2⟩ := h
    rw [List.map_cons, List.map_cons, ih h2]
/-- the keys of a locked dict, at one state -/
theorem ei_at {ds : List (Key × D)} {o : Obj} {xs : List (Key × V)} (e : En K B F0 ro ka ta sg H) (hB : B a = some (.frz o (.dK xs))) (hk : xs.map (·.1) = ds.map (·.1)) (hte : ∀ Q : VK, Q (.ref a) H → te sg H Q) :
    EvIat K B F0 (iKeys te) ro (ds.map fun kv => W.val (kD kv.1)) (fun _ => True) ka ta sg H := fun R q => hte _ ⟨a, o, rfl, .inl ⟨xs, (let ⟨_, _, ef⟩ := e; ef.fr _ _ hB), q _ ta H (fun p hp => hp) e (fun i w2 ro2 ka2 ta2 sg2 H2 hw _ _ e2 => by
    have hl : H2 a = some (.frz o (.dK xs)) := let ⟨_, _, ef⟩ := e2; ef.fr _ _ hB
    rw [List.getElem?_map] at hw
    obtain ⟨p, hp, rfl⟩ := Option.map_eq_some_iff.mp hw
    have h1 : (xs.map (·.1))[i]? = some p.1 := by rw [hk, List.getElem?_map, hp]; rfl
    rw [List.getElem?_map] at h1
    obtain ⟨y, hy, hy2⟩ := Option.map_eq_some_iff.mp h1
    refine ⟨⟨hl, (List.getElem?_eq_some_iff.mp hy).1⟩, fun x H3 ⟨e3, k, v, h2, h3⟩ => ?_⟩
    subst e3 h3
    rw [hy] at h2
    cases h2
    obtain ⟨pk, pd⟩ := p
    cases hy2
    exact e2.push_imm fun F => by cases k <;> rfl) fun i ro2 ka2 ta2 sg2 H2 hi _ _ e2 => by
    have hl : H2 a = some (.frz o (.dK xs)) := let ⟨_, _, ef⟩ := e2; ef.fr _ _ hB
    refine ⟨hl, ?_⟩
    have : xs.length = ds.length := by have := congrArg List.length hk; rwa [List.length_map, List.length_map] at this
    rw [this]
    rwa [List.length_map] at hi⟩⟩
theorem Gr.unB {B' F' : Hp} (h : Gr B' F F') (hs : ∀ c, B c ≠ none → B' c ≠ none) : Gr B F F' := ⟨h.sub, fun c h1 h2 => h.off c h1 (hs c h2)⟩
theorem upd_id {o : HO} (h : H a = some o) : upd H a o = H := by
  funext c
  unfold upd
  split
  · rename_i q; rw [q, h]
  · rfl
/-- a frozen dict is locked: what holds then, and the way back -/
theorem En.lockD {ds : List (Key × D)} (e : En K B F0 ro ka ta sg H) (hp : EvP K te ro (.val (.dic ds))) : ∃ (F : Hp) (a : Addr) (xs : List (Key × V)), Gr B F0 F ∧ F a = some (.dK xs) ∧ xs.map (·.1) = ds.map (·.1) ∧
    (H a = some (.dK xs) ∨ ∃ o, H a = some (.frz o (.dK xs))) ∧ (∀ y, B a = some y → H a = some y) ∧
    (∀ o, (∀ o', H a = some (.frz o' (.dK xs)) → o' = o) → En K (upd B a (.frz o (.dK xs))) F ro ka ta sg (upd H a (.frz o (.dK xs))) ∧ ∀ Q : VK, Q (.ref a) (upd H a (.frz o (.dK xs))) → te sg (upd H a (.frz o (.dK xs))) Q) := by
  obtain ⟨F, g, ef⟩ := e
  obtain ⟨v, h1, h2⟩ := hp B F ka ta sg H ef
  obtain ⟨a, xs, rfl, h3, h4⟩ := h1
  have hF : F a = some (.dK xs) := by
    rcases h3 with h3 | ⟨o, h3⟩
    · exact h3
    · have := ef.nz a _ h3; cases this
  have hH : H a = some (.dK xs) ∨ ∃ o, H a = some (.frz o (.dK xs)) := (ef.fz a _ hF).imp id fun z => z.2
  refine ⟨F, a, xs, g, hF, keys_of h4, hH, fun y hy => ef.fr _ _ hy, fun o ho => ?_⟩
  have hH2 : H a = some (.dK xs) ∨ H a = some (.frz o (.dK xs)) := hH.imp id fun ⟨o', z⟩ => by rw [← ho o' z]; exact z
  refine ⟨⟨F, Gr.refl _ _, ef.lockF hF rfl hH2⟩, fun Q q => h2 _ Q (fun c u hc hl => ?_) q⟩
  by_cases e : c = a
  · subst e
    rcases hH2 with z | z
    · rw [z] at hc; cases hc; cases hl
    · rw [z] at hc; cases hc; exact upd_same
  · rw [upd_ne e]; exact hc
theorem En.unlockD {o : Obj} {xs : List (Key × V)} {y : HO} (e : En K (upd B a (.frz o (.dK xs))) F ro ka ta sg H) (g : Gr B F0 F) (hF : F a = some (.dK xs)) (hx : y = .dK xs ∨ y = .frz o (.dK xs)) (hB : ∀ z, B a = some z → z = y) : En K B F0 ro ka ta sg (upd H a y) := by
  obtain ⟨F2, g2, ef⟩ := e
  have g3 : Gr B F F2 := Gr.unB g2 fun c hc => by
    by_cases e : c = a
    · subst e; rw [upd_same]; exact fun z => by cases z
    · rw [upd_ne e]; exact hc
  exact ⟨F2, g.trans g3, ef.unlockF (g2.sub _ _ hF) rfl hx hB⟩
/-- for k in d, d frozen -/
theorem g_forK {ds : List (Key × D)} {g : TG} {tb : TS} (hp : EvP K te ro (.val (.dic ds))) (Inv : Nat → Ro → Cells → Prop) (InvB : Ro → Cells → Prop) (h0 : Inv 0 ro ka)
    (hs : ∀ B' F1 rt' bk' ta', (∀ out, RtOk K B F0 out De.rt → RtOk K B' F1 out rt') → (∀ ro2 ka2, InvB ro2 ka2 → Gp K B' F1 ta' bk' ro2 ka2) → ∀ i kv ro2 ka2, ds[i]? = some kv → Inv i ro2 ka2 → ∃ ro3, AsT K g (.val (kD kv.1)) ro2 ro3 ∧
      Gp K B' F1 ta' (tb ⟨Jp K B' F1 ta' (Inv (i + 1)), rt', bk', Jp K B' F1 ta' (Inv (i + 1))⟩) ro3 ka2)
    (hd : ∀ ro2 ka2, (Inv ds.length ro2 ka2 ∨ InvB ro2 ka2) → Gp K B F0 ta De.nx ro2 ka2) : Gp K B F0 ta (tLkS (tFor (iKeys te) g tb) De) ro ka := fun sg H e => by
  obtain ⟨F, a, xs, gr, hF, hk, hH, hBH, lock⟩ := e.lockD hp
  -- the loop itself, between the lock and the way back
  have core : ∀ (o : Obj) (y : HO) (De' : Ends), (∀ o', H a = some (.frz o' (.dK xs)) → o' = o) → (y = .dK xs ∨ y = .frz o (.dK xs)) → (∀ z, B a = some z → z = y) →
      (∀ sg' H', H' a = some (.frz o (.dK xs)) → De.nx sg' (upd H' a y) → De'.nx sg' H') → (∀ v H', H' a = some (.frz o (.dK xs)) → De.rt v (upd H' a y) → De'.rt v H') → tFor (iKeys te) g tb De' sg (upd H a (.frz o (.dK xs))) := by
    intro o y De' ho hy hBy hnx hrt
    obtain ⟨e1, hte⟩ := lock o ho
    have hB1 : upd B a (.frz o (.dK xs)) a = some (.frz o (.dK xs)) := upd_same
    have fin : ∀ ro2 ka2 sg2 H2, (Inv ds.length ro2 ka2 ∨ InvB ro2 ka2) → En K (upd B a (.frz o (.dK xs))) F ro2 ka2 ta sg2 H2 → De'.nx sg2 H2 := fun ro2 ka2 sg2 H2 i e2 =>
      hnx sg2 H2 (let ⟨_, _, ef⟩ := e2; ef.fr _ _ hB1) (hd ro2 ka2 i _ _ (e2.unlockD gr hF hy hBy))
    have rt' : ∀ out, RtOk K B F0 out De.rt → RtOk K (upd B a (.frz o (.dK xs))) F out De'.rt := fun out h d ka v H' o' e2 =>
      hrt v H' (let ⟨_, _, ef⟩ := e2; ef.fr _ _ hB1) (h d ka v _ o' (e2.unlockD gr hF hy hBy))
    refine ei_at (ds := ds) e1 hB1 hk hte _ fun J ta' H1 hta e2 hgo hst => ?_
    refine ⟨fun i m sg H => m = ds.length - i ∧ i ≤ ds.length ∧ Jp K (upd B a (.frz o (.dK xs))) F ta' (Inv i) sg H, ⟨ds.length, by simp, Nat.zero_le _, ro, ka, h0, e2⟩, ?_⟩
    rintro i m sg2 H2 ⟨rfl, hi, ro2, ka2, inv, e3⟩
    by_cases hlt : i < ds.length
    · have hw : (ds.map fun kv => W.val (kD kv.1))[i]? = some (W.val (kD ds[i].1)) := by rw [List.getElem?_map, List.getElem?_eq_getElem hlt]; rfl
      obtain ⟨g1, g2⟩ := hgo i _ ro2 ka2 ta' sg2 H2 hw trivial (fun p hp => hp) e3
      refine .inr ⟨g1, Jp K (upd B a (.frz o (.dK xs))) F ta' (Inv (i + 1)), fun sg' H' q => ⟨ds.length - (i + 1), by omega, rfl, hlt, q⟩, fun x H3 y3 => ?_⟩
      have e4 := g2 x H3 y3
      obtain ⟨ro3, ast, gp⟩ := hs _ F De'.rt De'.nx ta' rt' (fun ro4 ka4 ib sg4 H4 e5 => fin ro4 ka4 sg4 H4 (.inr ib) (e5.held hta)) i ds[i] ro2 ka2 (List.getElem?_eq_getElem hlt) inv
      exact ast _ F ka2 _ sg2 H3 x _ e4 List.mem_cons_self fun sg' e' => gp _ _ e'.pop
    · have ei : i = ds.length := by omega
      subst ei
      exact .inl ⟨hst _ ro2 ka2 ta' sg2 H2 (by rw [List.length_map]; exact Nat.le_refl _) trivial (fun p hp => hp) e3, fin ro2 ka2 sg2 H2 (.inl inv) (e3.held hta)⟩
  rcases hH with hH | ⟨o, hH⟩
  · refine .inr ⟨a, .dK xs, hH, trivial, fun o => ?_⟩
    exact core o (.dK xs) _ (fun o' z => by rw [hH] at z; cases z) (.inl rfl) (fun z hz => by have := hBH z hz; rw [hH] at this; cases this; rfl) (fun sg' H' h1 h2 => ⟨h1, h2⟩) fun v H' h1 h2 => ⟨h1, h2⟩
  · refine .inl ?_
    have := core o (.frz o (.dK xs)) De (fun o' z => by rw [hH] at z; cases z; rfl) (.inr rfl) (fun z hz => by have := hBH z hz; rw [hH] at this; cases this; rfl) (fun sg' H' h1 h2 => by rwa [upd_id h1] at h2) fun v H' h1 h2 => by rwa [upd_id h1] at h2
    rwa [upd_id hH] at this

/-- what is made while a frozen dict is locked -/
theorem lkE_of {ds : List (Key × D)} {Q : VK} {t2 : TE} {R : Nd → Cells → Prop} (e : En K B F0 ro ka ta sg H) (hp : EvP K te ro (.val (.dic ds)))
    (h : ∀ (B' F1 H1 : Hp) (Q' : VK), En K B' F1 ro ka ta sg H1 → EvIat K B' F1 (iKeys te) ro (ds.map fun kv => W.val (kD kv.1)) (fun _ => True) ka ta sg H1 →
      (∀ n k a H', R n k → En K B' F1 ro (k ++ [(a, n)]) ta sg H' → Q' (.ref a) H') → t2 sg H1 Q')
    (q : ∀ n k a H', R n k → En K B F0 ro (k ++ [(a, n)]) ta sg H' → Q (.ref a) H') : tLkE t2 sg H Q := by
  obtain ⟨F, a, xs, gr, hF, hk, hH, hBH, lock⟩ := e.lockD hp
  rcases hH with hH | ⟨o, hH⟩
  · refine .inr ⟨a, .dK xs, hH, trivial, fun o => ?_⟩
    obtain ⟨e1, hte⟩ := lock o fun o' z => by rw [hH] at z; cases z
    refine h _ F _ _ e1 (ei_at (ds := ds) e1 upd_same hk hte) fun n k a' H' r e2 => ?_
    exact ⟨let ⟨_, _, ef⟩ := e2; ef.fr _ _ upd_same, q n k a' _ r (e2.unlockD gr hF (.inl rfl) fun z hz => by have := hBH z hz; rw [hH] at this; cases this; rfl)⟩
  · obtain ⟨e1, hte⟩ := lock o fun o' z => by rw [hH] at z; cases z; rfl
    refine .inl ?_
    have := h _ F _ Q e1 (ei_at (ds := ds) e1 upd_same hk hte) fun n k a' H' r e2 => by
      have e3 := e2.unlockD gr hF (.inr rfl) fun z hz => by have := hBH z hz; rw [hH] at this; cases this; rfl
      have at_ : H' a = some (.frz o (.dK xs)) := let ⟨_, _, ef⟩ := e2; ef.fr _ _ upd_same
      rw [upd_id at_] at e3
      exact q n k a' H' r e3
    rwa [upd_id hH] at this
/-- [e for k in d if ..], d frozen -/
theorem evr_lcK {ds : List (Key × D)} {j : Nat} {vs : List Nat} (hp : EvP K tg ro (.val (.dic ds))) (hj : j ∈ vs) (hn : ds.length ≤ 1000000) (Inv : Nat → List D → Cells → Prop) (h0 : Inv 0 [] ka)
    (hs : ∀ (i : Nat) (kv : Key × D) acc k, ds[i]? = some kv → Inv i acc k → (∃ k2, EvT K tt ((wipeR ro vs).set j (some (.val (kD kv.1)))) k false k2 ∧ Inv (i + 1) acc k2) ∨ ∃ k2 k3 d, EvT K tt ((wipeR ro vs).set j (some (.val (kD kv.1)))) k true k2 ∧ EvD K te ((wipeR ro vs).set j (some (.val (kD kv.1)))) k2 (.val d) k3 ∧ Inv (i + 1) (acc ++ [d]) k3)
    : EvNR K (tLkE (tLc (iKeys tg) (gName j) tt te vs)) ro ka (fun n k => ∃ acc, n = .lst acc ∧ Inv ds.length acc k) := fun B F0 ta sg H Q e q =>
  lkE_of (R := fun n k => ∃ acc, n = .lst acc ∧ Inv ds.length acc k) e hp (fun B' F1 H1 Q' e1 it q' => lc_at e1 it hj (by rw [List.length_map]; exact hn) Inv h0 (fun _ _ _ _ => ⟨trivial, fun _ => trivial⟩) (fun i w acc k hw inv => by
    rw [List.getElem?_map] at hw
    obtain ⟨kv, hkv, rfl⟩ := Option.map_eq_some_iff.mp hw
    exact hs i kv acc k hkv inv) fun n k a H' r e2 => q' n k a H' (by rw [List.length_map] at r; exact r) e2) q
/-- {k: v for x in d if ..}, d frozen -/
theorem evr_dcK {ds : List (Key × D)} {j : Nat} {vs : List Nat} (hp : EvP K tg ro (.val (.dic ds))) (hj : j ∈ vs) (hn : ds.length ≤ 1000000) (Inv : Nat → List (Key × D) → Cells → Prop) (h0 : Inv 0 [] ka)
    (hs : ∀ (i : Nat) (kv : Key × D) acc k, ds[i]? = some kv → Inv i acc k → (∃ k2, EvT K tt ((wipeR ro vs).set j (some (.val (kD kv.1)))) k false k2 ∧ Inv (i + 1) acc k2) ∨ ∃ k2 k3 k4 c d, EvT K tt ((wipeR ro vs).set j (some (.val (kD kv.1)))) k true k2 ∧ EvD K tk ((wipeR ro vs).set j (some (.val (kD kv.1)))) k2 (.val (kD c)) k3 ∧ EvD K tv ((wipeR ro vs).set j (some (.val (kD kv.1)))) k3 (.val d) k4 ∧ Inv (i + 1) (putT acc c d) k4)
    : EvNR K (tLkE (tDc (iKeys tg) (gName j) tt tk tv vs)) ro ka (fun n k => ∃ acc, n = .dic acc ∧ Inv ds.length acc k) := fun B F0 ta sg H Q e q =>
  lkE_of (R := fun n k => ∃ acc, n = .dic acc ∧ Inv ds.length acc k) e hp (fun B' F1 H1 Q' e1 it q' => dc_at e1 it hj (by rw [List.length_map]; exact hn) Inv h0 (fun _ _ _ _ => ⟨trivial, fun _ => trivial⟩) (fun i w acc k hw inv => by
    rw [List.getElem?_map] at hw
    obtain ⟨kv, hkv, rfl⟩ := Option.map_eq_some_iff.mp hw
    exact hs i kv acc k hkv inv) fun n k a H' r e2 => q' n k a H' (by rw [List.length_map] at r; exact r) e2) q
end
end DL

/-! EC: defaults, objects with cells in their fields, more of dicts (own work). -/
namespace DL
open PySem L2 PySem.W

/-! ### defaults -/
/-- the def at f keeps C, its defaults written out; dvs: its defaults -/
def FnD (P : Program) (w : World) (K : PySem.W.Frag) (mg : Str → Option Value) (base : Heap) (k : Nat) (f : Addr) (ps : List Str) (dvs : List V) (C : Ct) : Prop :=
  ∃ fd, FnOk P w K mg base (L2.CX P w) k f fd ps (spC K C) ∧ ∃ ds, Vals dvs ds ∧ Binds K fd ps ds
section
variable {P : Program} {w : World} {K : PySem.W.Frag} {mg : Str → Option Value} {base : Heap} {k j : Nat} {f : Addr} {ps : List Str} {dvs : List V} {C : Ct}
noncomputable def FnD.fd (F : FnD P w K mg base k f ps dvs C) : FuncData := Classical.choose F
theorem FnD.ok (F : FnD P w K mg base k f ps dvs C) : FnOk P w K mg base (L2.CX P w) k f F.fd ps (spC K C) := (Classical.choose_spec F).1
noncomputable def FnD.ds (F : FnD P w K mg base k f ps dvs C) : List Value := Classical.choose (Classical.choose_spec F).2
theorem FnD.dv (F : FnD P w K mg base k f ps dvs C) : Vals dvs F.ds := (Classical.choose_spec (Classical.choose_spec F).2).1
theorem FnD.bn (F : FnD P w K mg base k f ps dvs C) : Binds K F.fd ps F.ds := (Classical.choose_spec (Classical.choose_spec F).2).2
theorem FnD.up (F : FnD P w K mg base j f ps dvs C) (h : j ≤ k) : FnD P w K mg base k f ps dvs C := let ⟨fd, a, b⟩ := F; ⟨fd, a.mono h, b⟩
end
/-- what stands for the defaults -/
def DvOk (K : PySem.W.Frag) (dvs : List V) (wd : List W) : Prop := dvs.length = wd.length ∧ ∀ B F p, p ∈ dvs.zip wd → WOk K B F p.1 p.2
theorem dv_nil {K : PySem.W.Frag} : DvOk K [] [] := ⟨rfl, fun _ _ _ h => by cases h⟩
theorem dv_cons {K : PySem.W.Frag} {v : V} {w : W} {dvs : List V} {wd : List W} (h : ∀ B F, WOk K B F v w) (r : DvOk K dvs wd) : DvOk K (v :: dvs) (w :: wd) := ⟨by rw [List.length_cons, List.length_cons, r.1], fun B F p hp => by
  rcases List.mem_cons.mp hp with rfl | hp
  · exact h B F
  · exact r.2 B F p hp⟩
section
variable {K : PySem.W.Frag} {B B' F F' F0 : Hp} {ro ro' : Ro} {ka k1 k2 k3 kr : Cells} {ta : List (V × W)} {sg sg' : L2.St} {H H' : Hp} {te tf tg td ty tk tv : TE} {tr : TA} {tt tu : TT} {w x y z : W} {n m : Nd} {C dx a o d : Addr} {b : Bool} {P : W → Cells → Prop} {De : Ends} {u : TS}
theorem En.more (e : En K B F0 ro ka ta sg H) {dvs : List V} {wd : List W} (h : DvOk K dvs wd) : En K B F0 ro ka (dvs.zip wd ++ ta) sg H := by
  obtain ⟨F, g, e⟩ := e
  refine ⟨F, g, { e with tm := fun p hp => ?_ }⟩
  rcases List.mem_append.mp hp with q | q
  · exact h.2 B F p q
  · exact e.tm p q
/-- C(e, ..), told by a word: __init__ may make more cells -/
theorem evr_make {Cc : Ct} {ws wd : List W} {dvs : List V} {E : XK} (ha : EvA K tr ro ka ws k1) (hd : DvOk K dvs wd)
    (hC : ∀ a, ∃ out, Cc (.val (.adr a) :: (ws ++ wd)) (k1 ++ [(a, .ins C [])]) out ∧ ∀ o k, out o k → o = .ret .non ∧ P (.val (.adr a)) k) : EvR K (tMake C (spC K Cc) dvs E tr) ro ka P := fun B F0 ta sg H Q e q =>
  ha B F0 ta sg H _ e fun vs H1 hl e1 => by
    intro x dx hx hdx hne
    obtain ⟨F, g, e1⟩ := e1
    obtain ⟨e2, g2⟩ := e1.lay (o := .own x) hdx rfl
    have hx2 : upd H1 dx (.own x) x = none := by rw [upd_ne (Ne.symm hne)]; exact hx
    have e3 := e2.cell (o := .ins C dx []) hx2 (n := .ins C []) ⟨dx, [], upd_same, rfl⟩
    obtain ⟨out, hC, ho⟩ := hC x
    have e4 : En K B F0 ro ((k1 ++ [(x, .ins C [])]) ++ []) (dvs.zip wd ++ (vs.zip ws ++ ta)) sg (upd (upd H1 dx (.own x)) x (.ins C dx [])) := by
      rw [List.append_nil]
      exact En.more ⟨_, g.trans g2, e3⟩ hd
    have hlen : (V.ref x :: (vs ++ dvs)).length = (W.val (.adr x) :: (ws ++ wd)).length := by rw [List.length_cons, List.length_cons, List.length_append, List.length_append, hl, hd.1]
    have hz : (V.ref x :: (vs ++ dvs)).zip (W.val (.adr x) :: (ws ++ wd)) = (V.ref x, W.val (.adr x)) :: (vs.zip ws ++ dvs.zip wd) := by rw [List.zip_cons_cons, List.zip_append hl]
    have e5 : En K B F0 ro ((k1 ++ [(x, .ins C [])]) ++ []) ((V.ref x :: (vs ++ dvs)).zip (W.val (.adr x) :: (ws ++ wd)) ++ ta) sg (upd (upd H1 dx (.own x)) x (.ins C dx [])) := by
      rw [hz]
      refine (e4.push_imm (v := .ref x) (w := .val (.adr x)) fun _ => rfl).held fun p hp => ?_
      rcases List.mem_cons.mp hp with rfl | hp
      · exact List.mem_cons_self
      · refine List.mem_cons_of_mem _ ?_
        rcases List.mem_append.mp hp with hp | hp
        · rcases List.mem_append.mp hp with hp | hp
          · exact List.mem_append_right _ (List.mem_append_left _ hp)
          · exact List.mem_append_left _ hp
        · exact List.mem_append_right _ (List.mem_append_right _ hp)
    refine sp_rel (kr := []) e5 hlen hC (fun o k h => ⟨_, (ho o k h).1⟩) fun d k2 v H' o e6 => ?_
    obtain ⟨he, p⟩ := ho _ _ o
    cases he
    rw [List.append_nil] at e6
    exact ⟨e6.tm_non List.mem_cons_self, q _ _ (.ref x) H' p (e6.pop.push_imm fun _ => rfl)⟩
theorem evr_ifT (h : EvT K tt ro ka true k1) (h1 : EvR K te ro k1 P) : EvR K (tIf tt te tf) ro ka P := fun B F0 ta sg H Q e q => h B F0 ta sg H _ e fun H1 e1 => h1 B F0 ta sg H1 Q e1 q
/-- o.f = e, e told by a word -/
theorem g_fldR {f : Str} (hv : EvR K tf ro ka P) (c : Cls K C) (nf : NoAttr K C f)
    (k : ∀ w k1, P w k1 → ∃ d k2 j fs, w = .val d ∧ EvD K te ro k1 (.val (.adr a)) k2 ∧ k2[j]? = some (a, .ins C fs) ∧ fs.length < 900 ∧ Gp K B F0 ta De.nx ro (k2.set j (a, .ins C (putD f d fs)))) : Gp K B F0 ta (sFld K te tf f De) ro ka := fun sg H e =>
  hv B F0 ta sg H _ e fun w k1 v H1 p e1 => by
    obtain ⟨d, k2, j, fs, rfl, ho, hj, hz, hk⟩ := k w k1 p
    refine ho B F0 _ sg H1 _ e1 fun x H2 e2 => ?_
    have hx := e2.tm_adr (v := x) (a := a) List.mem_cons_self
    subst hx
    obtain ⟨F, g, ef⟩ := e2
    obtain ⟨_, _, dx, xs, hH, rx⟩ := ef.ce _ (List.mem_of_getElem? hj)
    have vd := ef.tm (v, .val d) (List.mem_cons_of_mem _ List.mem_cons_self)
    have room : xs.length < 900 := by rw [rpf_len rx]; exact hz
    exact ⟨_, C, dx, xs, rfl, hH, c, nf, Nat.lt_trans room (by decide), hk _ _ ⟨F, g, (ef.write (o := .ins C dx (putF f v xs)) (n' := .ins C (putD f d fs)) hj ⟨dx, _, upd_same, rpf_put vd rx⟩).held fun p hp => List.mem_cons_of_mem _ (List.mem_cons_of_mem _ hp)⟩⟩
theorem q_fldR {f : Str} (hv : EvR K tf ro ka P) (c : Cls K C) (nf : NoAttr K C f)
    (k : ∀ w k1, P w k1 → ∃ d k2 j fs, w = .val d ∧ EvD K te ro k1 (.val (.adr a)) k2 ∧ k2[j]? = some (a, .ins C fs) ∧ fs.length < 900 ∧ Gp K B F0 ta (u De) ro (k2.set j (a, .ins C (putD f d fs)))) : Gp K B F0 ta (tSeq (sFld K te tf f) u De) ro ka := g_fldR (De := { De with nx := u De }) hv c nf k

/-! ### cells in fields, filled in -/
/-- what stands at a field, said otherwise -/
theorem rpf_fill {G : Hp} {x y : D} (h : ∀ u, Rp K G x u → Rp K G y u) {f : Str} : ∀ {fs : List (Str × D)} {r : List (Str × D)} {xs : List (Str × V)}, RpF K G (fs ++ (f, x) :: r) xs → RpF K G (fs ++ (f, y) :: r) xs
  | [], _, _, ⟨v, l, e, p, q⟩ => ⟨v, l, e, h v p, q⟩
  | _ :: _, _, _, ⟨v, l, e, p, q⟩ => ⟨v, l, e, p, rpf_fill h q⟩
/-- a field that holds the cell o, which is frozen by now -/
theorem En.fill {v : D} {f : Str} {j : Nat} {fs r : List (Str × D)} (e : En K B F0 ro ka ta sg H) (ho : (V.ref o, W.val v) ∈ ta) (hj : ka[j]? = some (a, .ins C (fs ++ (f, .adr o) :: r))) : En K B F0 ro (ka.set j (a, .ins C (fs ++ (f, v) :: r))) ta sg H := by
  obtain ⟨F, g, e⟩ := e
  have hv := e.tm _ ho
  refine ⟨F, g, { e with nd := ?_, ce := fun p hp => ?_ }⟩
  · rw [List.map_set]
    have same : (ka.map (·.1)).set j a = ka.map (·.1) := List.ext_getElem? fun i => by
      by_cases hij : j = i
      · subst hij
        rw [List.getElem?_set_self (by rw [List.length_map]; exact (List.getElem?_eq_some_iff.mp hj).1), List.getElem?_map, hj]
        rfl
      · rw [List.getElem?_set_ne hij]
    exact same.symm ▸ e.nd
  · rcases List.mem_or_eq_of_mem_set hp with q | rfl
    · exact e.ce p q
    · obtain ⟨h1, h2, dx, xs, h3, h4⟩ := e.ce _ (List.mem_of_getElem? hj)
      exact ⟨h1, h2, dx, xs, h3, rpf_fill (fun u hu => by rw [show u = .ref o from hu]; exact hv) h4⟩
end

section
variable {K : PySem.W.Frag} {B B' F F' F0 : Hp} {ro ro' : Ro} {ka k1 k2 k3 kr : Cells} {ta : List (V × W)} {sg sg' : L2.St} {H H' : Hp} {te tf tg td ty tk tv : TE} {tr : TA} {tt tu : TT} {w x y z : W} {n m : Nd} {C dx a o d : Addr} {b : Bool} {P : L2.St → Hp → Prop} {De : Ends} {u : TS}
/-- what a slot holds, said otherwise -/
theorem En.reslot {i : Nat} {v : D} (e : En K B F0 ro ka ta sg H) (hi : ro[i]? = some (some (.val (.adr a)))) (hv : (V.ref a, W.val v) ∈ ta) : En K B F0 (ro.set i (some (.val v))) ka ta sg H := by
  obtain ⟨F, g, e⟩ := e
  refine ⟨F, g, { e with ln := by rw [List.length_set]; exact e.ln, sl := fun j w q => ?_ }⟩
  rw [List.getElem?_set] at q
  split at q
  · rename_i hij
    subst hij
    split at q
    · cases q
      obtain ⟨x, h1, h2⟩ := e.sl _ _ hi
      obtain rfl : x = V.ref a := h2
      exact ⟨_, h1, e.tm _ hv⟩
    · cases q
  · exact e.sl j w q
/-- an own dict, frozen -/
theorem Gp.frzK {i : Nat} {ds : List (Key × D)} (hi : ro[i]? = some (some (.val (.adr a)))) (hp : (kr ++ [(a, Nd.dic ds)]).Perm ka) (h : Gp K B F0 ta P (ro.set i (some (.val (.dic ds)))) kr) : Gp K B F0 ta P ro ka := fun sg H e =>
  h sg H ((En.reslot (e.perm hp).freeze_k hi List.mem_cons_self).held fun p q => List.mem_cons_of_mem _ q)
/-- an object whose fields hold an own list and an own dict, frozen as a whole -/
theorem Gp.frzN {i : Nat} {f g : Str} {xs : List D} {ds : List (Key × D)} (hi : ro[i]? = some (some (.val (.adr a)))) (hp : (kr ++ [(a, Nd.ins C [(f, .adr o), (g, .adr d)]), (o, Nd.lst xs), (d, Nd.dic ds)]).Perm ka)
    (h : Gp K B F0 ta P (ro.set i (some (.val (.ins C [(f, .lst xs), (g, .dic ds)])))) kr) : Gp K B F0 ta P ro ka := fun sg H e => by
  have e0 : En K B F0 ro ((kr ++ [(a, Nd.ins C [(f, .adr o), (g, .adr d)]), (o, Nd.lst xs)]) ++ [(d, Nd.dic ds)]) ta sg H := by
    have := e.perm hp
    rwa [List.append_assoc]
  have e1 := e0.freeze_k
  have e2 := e1.fill (v := .dic ds) (f := g) (j := kr.length) (a := a) (C := C) (fs := [(f, .adr o)]) (r := []) List.mem_cons_self (by simp)
  have e3 : En K B F0 ro ((kr ++ [(a, Nd.ins C [(f, .adr o), (g, .dic ds)])]) ++ [(o, Nd.lst xs)]) ((V.ref d, W.val (.dic ds)) :: ta) sg H := by
    rw [List.set_append_right _ _ (Nat.le_refl _), Nat.sub_self] at e2
    rwa [List.append_assoc]
  have e4 := e3.freeze_l
  have e5 := e4.fill (v := .lst xs) (f := f) (j := kr.length) (a := a) (C := C) (fs := []) (r := [(g, .dic ds)]) List.mem_cons_self (by simp)
  rw [List.set_append_right _ _ (Nat.le_refl _), Nat.sub_self] at e5
  have e6 : En K B F0 ro kr _ sg H := En.freeze_i e5
  exact h sg H ((En.reslot e6 hi List.mem_cons_self).held fun p q => List.mem_cons_of_mem _ (List.mem_cons_of_mem _ (List.mem_cons_of_mem _ q)))
/-- a new value, its object with fields frozen as a whole -/
theorem EvR.frzN {f g : Str} {xs : List D} {ds : List (Key × D)} {R : W → Cells → Prop} (h : EvR K te ro ka R) (hR : ∀ w k, R w k → ∃ a o d, w = .val (.adr a) ∧ k = k1 ++ [(a, Nd.ins C [(f, .adr o), (g, .adr d)]), (o, Nd.lst xs), (d, Nd.dic ds)]) : EvD K te ro ka (.val (.ins C [(f, .lst xs), (g, .dic ds)])) k1 := fun B F0 ta sg H Q e q =>
  h B F0 ta sg H Q e fun w k v H' p e1 => by
    obtain ⟨a, o, d, rfl, rfl⟩ := hR w k p
    have hv := e1.tm_adr (v := v) (a := a) List.mem_cons_self
    subst hv
    have e0 : En K B F0 ro ((k1 ++ [(a, Nd.ins C [(f, .adr o), (g, .adr d)]), (o, Nd.lst xs)]) ++ [(d, Nd.dic ds)]) ta sg H' := by
      have := e1.pop
      rwa [List.append_assoc]
    have e2 := e0.freeze_k.fill (v := .dic ds) (f := g) (j := k1.length) (a := a) (C := C) (fs := [(f, .adr o)]) (r := []) List.mem_cons_self (by simp)
    have e3 : En K B F0 ro ((k1 ++ [(a, Nd.ins C [(f, .adr o), (g, .dic ds)])]) ++ [(o, Nd.lst xs)]) ((V.ref d, W.val (.dic ds)) :: ta) sg H' := by
      rw [List.set_append_right _ _ (Nat.le_refl _), Nat.sub_self] at e2
      rwa [List.append_assoc]
    have e5 := e3.freeze_l.fill (v := .lst xs) (f := f) (j := k1.length) (a := a) (C := C) (fs := []) (r := [(g, .dic ds)]) List.mem_cons_self (by simp)
    rw [List.set_append_right _ _ (Nat.le_refl _), Nat.sub_self] at e5
    exact q _ _ ((En.freeze_i e5).held fun p hp => by
      rcases List.mem_cons.mp hp with rfl | hp
      · exact List.mem_cons_self
      · exact List.mem_cons_of_mem _ (List.mem_cons_of_mem _ (List.mem_cons_of_mem _ hp)))

end
end DL
namespace DL
open PySem L2 PySem.W
/-! ### facts -/
/-- an empty tuple of the module -/
def IsT0 (K : PySem.W.Frag) (a : Addr) : Prop := ∃ (o : Obj) (n : Nat), K.lookup a = some o ∧ o.cls = .type "tuple" ∧ o.data = .seq #[] n
def isT0 : Option Obj → Bool
  | some ⟨.type T, _, .seq its _, _⟩ => decide (T = "tuple") && its.isEmpty
  | _ => false
def fT0 (p : Str × Option Str) (i : Nat) : Fx := fun K => isT0 (K.lookup (He.dflAt p i K))
theorem t0_ok {K : PySem.W.Frag} {p : Str × Option Str} {i : Nat} (h : fT0 p i K = true) : IsT0 K (He.dflAt p i K) := by
  unfold fT0 at h
  cases hl : K.lookup (He.dflAt p i K) with
  | none => rw [hl] at h; cases h
  | some ob =>
    rw [hl] at h
    obtain ⟨cls, dict, data, sl⟩ := ob
    cases cls with
    | type T =>
      cases data with
      | seq its n =>
        have h' : (decide (T = "tuple") && its.isEmpty) = true := h
        rw [Bool.and_eq_true, decide_eq_true_eq] at h'
        obtain ⟨rfl, h2⟩ := h'
        have : its = #[] := Array.isEmpty_iff.mp h2
        subst this
        exact ⟨_, n, hl, rfl, rfl⟩
      | _ => cases h
    | _ => cases h
theorem wok_t0 {K : PySem.W.Frag} {a : Addr} (h : IsT0 K a) (B F : Hp) : WOk K B F (.ref a) (.val (.tup [])) := by
  obtain ⟨o, n, h1, h2, h3⟩ := h
  exact ⟨a, [], rfl, .inr ⟨o, #[], n, h1, h2, h3, Nat.zero_le _, .nil⟩, rfl⟩
section
variable {P : Program} {w : World} {K : PySem.W.Frag} {mg : Str → Option Value} {base : Heap} {f : Addr} {fd : FuncData} {x qual : Str} {params : Arguments} {body : List Stmt} {scope : Scope} {ps N : List Str} {k j : Nat} {C : Ct} {dvs : List V}
end
end DL
namespace DL
open PySem L2 PySem.W
theorem hu1 {k : Nat} {A : Around} (r : Room k A) : A.units + 1 < cLine := by have := r.units; omega
end DL

namespace DL
open PySem L2 PySem.W
section
variable {K : PySem.W.Frag} {B F F0 : Hp} {ro : Ro} {ka k1 k2 : Cells} {ta : List (V × W)} {sg : L2.St} {H : Hp} {te tf : TE} {w : W} {n : Nd}
/-! ### is None -/
def isNonD : D → Bool
  | .non => true
  | _ => false
theorem isNonD_of {F : Hp} {d : D} {v : V} (h : Rp K F d v) : decide (v = .non) = isNonD d := by
  cases d with
  | non => rw [show v = .non from h]; rfl
  | bl b => rw [show v = .bl b from h]; rfl
  | int i => rw [show v = .int i from h]; rfl
  | str s => rw [show v = .str s from h]; rfl
  | ty n => rw [show v = .ty n from h]; rfl
  | adr a => rw [show v = .ref a from h]; rfl
  | tup ds => obtain ⟨a, _, rfl, _⟩ := h; rfl
  | lst ds => obtain ⟨a, _, rfl, _⟩ := h; rfl
  | dic ds => obtain ⟨a, _, rfl, _⟩ := h; rfl
  | dit ds => obtain ⟨a, _, rfl, _⟩ := h; rfl
  | din w ds => obtain ⟨a, _, rfl, _⟩ := h; rfl
  | ins C fs => obtain ⟨a, _, _, rfl, _⟩ := h; rfl
theorem En.isN {d : D} (e : En K B F0 ro ka ta sg H) {v : V} (h : (v, w) ∈ ta) (hw : w = .val d ∨ w = .vw d) : decide (v = .non) = isNonD d := by
  obtain ⟨F, _, e⟩ := e
  have := e.tm _ h
  rcases hw with rfl | rfl
  · exact isNonD_of (F := F) this
  · exact isNonD_of (F := uni B F) this
theorem ev_isN {d : D} (h : EvD K te ro ka w k1) (hw : w = .val d ∨ w = .vw d := by exact .inl rfl) : EvD K (tOp rIsN te (tC .non)) ro ka (.val (.bl (isNonD d))) k1 := fun B F0 ta sg H Q e q => h B F0 ta sg H _ e fun v H1 e1 =>
  ⟨rfl, by rw [e1.isN List.mem_cons_self hw]; exact q _ _ (e1.pop.push_imm fun _ => rfl)⟩
theorem ev_notN {d : D} (h : EvD K te ro ka w k1) (hw : w = .val d ∨ w = .vw d := by exact .inl rfl) : EvD K (tOp rNotN te (tC .non)) ro ka (.val (.bl (!isNonD d))) k1 := fun B F0 ta sg H Q e q => h B F0 ta sg H _ e fun v H1 e1 =>
  ⟨rfl, by rw [e1.isN List.mem_cons_self hw]; exact q _ _ (e1.pop.push_imm fun _ => rfl)⟩
theorem EvNR.toR {R : Nd → Cells → Prop} (h : EvNR K te ro ka R) : EvR K te ro ka (fun w k => ∃ a n k0, w = .val (.adr a) ∧ R n k0 ∧ k = k0 ++ [(a, n)]) := fun B F0 ta sg H Q e q =>
  h B F0 ta sg H Q e fun n k a H' r e1 => q _ _ (.ref a) H' ⟨a, n, k, rfl, r, rfl⟩ (e1.push_imm fun _ => rfl)
end
end DL

namespace DL
open PySem L2 PySem.W
theorem sqf_stD (b : Bool) (ss : List Str) : SqF b (stD ss) := .inr (List.all_eq_true.mpr fun d hd => by
  obtain ⟨s, _, rfl⟩ := List.mem_map.mp hd
  rfl)
end DL
namespace DL
open PySem L2 PySem.W
section
variable {K : PySem.W.Frag} {ro : Ro} {ka k1 k2 k3 : Cells} {te : TE} {tr : TA} {w : W} {E : XK}
/-- a method, its end told -/
theorem ev_methA {Cc : Ct} {ws : List W} {C : Addr} {m : Str} {fs : List (Str × D)} {b : Bool} {d : D} (kr : Cells) (h : EvD K te ro ka w k1) (l : Io k1 w C fs b) (hm : fs.lookup m = none) (ha : EvA K tr ro k1 ws (k2 ++ kr)) (hC : Cc (w :: ws) k2 (Rt d k3)) : EvD K (tMeth C m (spC K Cc) [] E te tr) ro ka (.val d) (k3 ++ kr) :=
  (evr_meth kr h l hm ha hC fun o k ho => ⟨d, ho.1⟩).d fun w' k ⟨d', k4, ho, e1, e2⟩ => by
    obtain ⟨h1, h2⟩ := ho
    cases h1
    exact ⟨e1, by rw [e2, h2]⟩
theorem at_t3 {d1 d2 d3 : D} {i j k : Nat} : AsT K (gTup K 3 (gCons (gName i) (gCons (gName j) (gCons (gName k) gNil)))) (.val (.tup [d1, d2, d3])) ro (((ro.set i (some (.val d1))).set j (some (.val d2))).set k (some (.val d3))) := at_tup rfl (al_cons at_n (al_cons at_n (al_cons at_n al_nil)))
end
end DL
namespace DL
open PySem L2 PySem.W
/-! ### tables with text keys -/
section
variable {β : Type} {f : β → D}
def tbD (f : β → D) (xs : List (Str × β)) : List (Key × D) := xs.map fun p => (.inr p.1, f p.2)
abbrev keysT (xs : List (Str × β)) : List Str := xs.map (·.1)
theorem tbD_len (xs : List (Str × β)) : (tbD f xs).length = xs.length := List.length_map _
theorem tbD_app (xs ys : List (Str × β)) : tbD f (xs ++ ys) = tbD f xs ++ tbD f ys := List.map_append
theorem getT_isSome {κ α : Type} [DecidableEq κ] (kvs : List (κ × α)) (k : κ) : (getT kvs k).isSome = hasT kvs k := by
  unfold getT hasT
  rw [Option.isSome_map]
  induction kvs with
  | nil => rfl
  | cons x l ih =>
    rw [List.find?_cons, List.any_cons]
    cases h : decide (x.1 = k) with
    | true => rfl
    | false => rw [ih]; rfl
theorem tb_has {xs : List (Str × β)} {s : Str} : hasT (tbD f xs) (.inr s) = decide (s ∈ keysT xs) := by
  unfold hasT tbD
  rw [List.any_map, Bool.eq_iff_iff, List.any_eq_true, decide_eq_true_eq, List.mem_map]
  constructor
  · rintro ⟨r, h1, h2⟩
    exact ⟨r, h1, Sum.inr.inj (of_decide_eq_true h2)⟩
  · rintro ⟨r, h1, h2⟩
    exact ⟨r, h1, decide_eq_true (congrArg Sum.inr h2)⟩
theorem tb_in (xs : List (Str × β)) (s : Str) : (getT (tbD f xs) (.inr s)).isSome = decide (s ∈ keysT xs) := (getT_isSome _ _).trans tb_has
theorem tb_put {xs : List (Str × β)} {s : Str} {v : β} (h : ¬ s ∈ keysT xs) : putT (tbD f xs) (.inr s) (f v) = tbD f (xs ++ [(s, v)]) := by
  unfold putT
  rw [if_neg (by rw [tb_has, decide_eq_true_eq]; exact h), tbD_app]
  rfl
theorem tb_get {xs : List (Str × β)} (hn : (keysT xs).Nodup) {s : Str} {v : β} (h : (s, v) ∈ xs) : getT (tbD f xs) (.inr s) = some (f v) := by
  induction xs with
  | nil => cases h
  | cons x l ih =>
    have hn2 := List.nodup_cons.mp hn
    unfold getT tbD
    rw [List.map_cons, List.find?_cons]
    rcases List.mem_cons.mp h with e | h
    · rw [← e, decide_eq_true rfl]
      rfl
    · have ne : ¬ (Sum.inr x.1 : Int ⊕ Str) = .inr s := fun z => hn2.1 (by show x.1 ∈ _; rw [Sum.inr.inj z]; exact List.mem_map.mpr ⟨_, h, rfl⟩)
      rw [decide_eq_false ne]
      exact ih hn2.2 h
theorem keys_app (xs ys : List (Str × β)) : keysT (xs ++ ys) = keysT xs ++ keysT ys := List.map_append
theorem key_has {xs : List (Str × β)} {s : Str} (h : s ∈ keysT xs) : ∃ v, (s, v) ∈ xs := by
  obtain ⟨p, hp, rfl⟩ := List.mem_map.mp h
  exact ⟨p.2, hp⟩
end
end DL
namespace DL
open PySem L2 PySem.W
section
variable {K : PySem.W.Frag} {ro : Ro} {ka k1 : Cells} {te tf : TE} {P : W → Cells → Prop} {R : Nd → Cells → Prop}
/-- [e, f], f told by a word -/
theorem evnr_l2 {d1 : D} (h1 : EvD K te ro ka (.val d1) k1) (h2 : EvR K tf ro k1 P) (hP : ∀ w k, P w k → ∃ d2, w = .val d2 ∧ R (.lst [d1, d2]) k) : EvNR K (tLst (tCons te (tCons tf tNil))) ro ka R := fun B F0 ta sg H Q e q =>
  h1 B F0 ta sg H _ e fun u H1 e1 => h2 B F0 _ sg H1 _ e1 fun w k v H2 p e2 => by
    obtain ⟨d2, rfl, r⟩ := hP w k p
    refine ⟨(by decide : 2 ≤ sizeLine), fun c hc => q _ k c _ r ?_⟩
    obtain ⟨F, g, ef⟩ := e2
    have hu := ef.tm (u, .val d1) (List.mem_cons_of_mem _ List.mem_cons_self)
    have hv := ef.tm (v, .val d2) List.mem_cons_self
    exact ⟨F, g, (ef.cell (o := .lst [u, v]) hc (n := .lst [d1, d2]) ⟨_, upd_same, u, [v], rfl, hu, v, [], rfl, hv, rfl⟩).held fun z hz => List.mem_cons_of_mem _ (List.mem_cons_of_mem _ hz)⟩
end
end DL
namespace DL
open PySem L2 PySem.W
section
variable {K : PySem.W.Frag} {B F0 : Hp} {ro : Ro} {ka k1 : Cells} {ta : List (V × W)} {te : TE} {w : W} {b : Bool} {R : Nd → Cells → Prop} {De : Ends} {u : TS}
/-- the texts of a list or tuple -/
theorem ei_strsL {t b : Bool} {ss : List Str} (h : EvD K te ro ka w k1) (l : Lk k1 w t (stD ss) b) : EvI K (iSeq K te) ro ka (ss.map fun s => W.val (.str s)) (Stay w (stD ss)) k1 := by
  have e : (stD ss).map (part b) = ss.map fun s => W.val (.str s) := by
    unfold stD
    rw [List.map_map]
    exact List.map_congr_left fun s _ => by cases b <;> rfl
  have := ei_seq h l
  rwa [e] at this
/-- a new dict, told as a whole, frozen -/
theorem EvNR.dicD {ms : List (Key × D)} (h : EvNR K te ro ka R) (hR : ∀ n k, R n k → n = .dic ms ∧ k = k1) : EvD K te ro ka (.val (.dic ms)) k1 := fun B F0 ta sg H Q e q => h B F0 ta sg H Q e fun n k a H1 r e1 => by
  obtain ⟨rfl, rfl⟩ := hR n k r
  exact q _ _ e1.freeze_k
theorem EvNR.lstD {ds : List D} (h : EvNR K te ro ka R) (hR : ∀ n k, R n k → n = .lst ds ∧ k = k1) : EvD K te ro ka (.val (.lst ds)) k1 := fun B F0 ta sg H Q e q => h B F0 ta sg H Q e fun n k a H1 r e1 => by
  obtain ⟨rfl, rfl⟩ := hR n k r
  exact q _ _ e1.freeze_l
end
end DL
namespace DL
open PySem L2 PySem.W
section
variable {K : PySem.W.Frag} {ro : Ro} {ka k1 k2 : Cells} {ty td : TE} {P : W → Cells → Prop}
end
end DL
namespace DL
open PySem L2 PySem.W
section
variable {K : PySem.W.Frag} {ro : Ro} {ka k1 : Cells} {te tf : TE} {n : Nd} {y : W} {E : XK}
end
end DL

/-! ED: d.get(k) (own work). -/
namespace DL
open PySem L2 PySem.W
section
variable {K : PySem.W.Frag} {ro : Ro} {ka k1 k2 : Cells} {td ty : TE} {w : W} {b : Bool}
end
end DL

/-! EE: try with any number of except clauses, each with or without a name (own work). -/
namespace DL
open PySem L2 PySem.W PyProof.Rows

/-- the exception at a has come down in X; but for it the state is as σ, H tell -/
def Down (X : Cx) (pins : List (Addr × Obj)) (a : Addr) (cls : Value) (d : Option Addr) (σ : L2.St) (H : Hp) (s : Shared) : Prop :=
  ∃ (B : Heap) (s0 : Shared), L2.Inv X pins σ H s0 ∧ (∀ b o, s0.heap.get? b = some o → b ∉ frs X.stack → B.get? b = some o) ∧ s0.heap.UpToSlots s.heap ∧
    HandSPX.FlyingZ B (X.env :: X.outer) a (Zc cls d) s.heap ∧ H a = none ∧ s.os = s0.os ∧ AllBare s.gens
section
variable {X : Cx} {pins : List (Addr × Obj)} {a : Addr} {cls : Value} {d : Option Addr} {σ : L2.St} {H : Hp} {s : Shared}
theorem Down.inv (z : Down X pins a cls d σ H s) : L2.Inv X pins σ H s :=
  let ⟨_, _, I, nb, up, fl, _, os, ag⟩ := z
  I.landed nb fl.1 up os ag
theorem Down.obj (z : Down X pins a cls d σ H s) : ∃ (oe : Obj) (vs : Array Value), s.heap.get? a = some oe ∧ Zc cls d oe ∧ oe.data = .fields vs :=
  let ⟨_, _, _, _, _, fl, _⟩ := z
  let ⟨oe, vs, h1, h2, h3⟩ := fl.there
  ⟨oe, vs, h1, h2, h3⟩
/-- no frame's slots stand there -/
theorem Down.off (z : Down X pins a cls d σ H s) : a ∉ frs (X.env :: X.outer) := fun hm => by
  obtain ⟨oe, vs, h1, _, h3⟩ := z.obj
  obtain ⟨_, _, _, _, _, fl, _⟩ := z
  obtain ⟨_, o, h4, h5⟩ := fl.2.2.1.mem hm
  rw [h1] at h4
  cases h4
  exact h5 _ h3
/-- the state that an except suite finds -/
theorem Down.within (z : Down X pins a cls d σ H s) (hf : X.env.frame = some X.env.locals) : ∃ oe vs, oe.data = .fields vs ∧ Zc cls d oe ∧ s.heap.get? a = some oe ∧ L2.Inv (X.suite a ((a, oe) :: (X.pn ++ pins))) [] σ H s := by
  obtain ⟨oe, vs, h1, h2, h3⟩ := z.obj
  have off := z.off
  have na : H a = none := let ⟨_, _, _, _, _, _, na, _⟩ := z; na
  refine ⟨oe, vs, h3, h2, h1, z.inv.suite h1 h3 na (fun e => off ?_) fun hm => off ?_⟩
  · exact List.mem_filterMap.mpr ⟨X.env, List.mem_cons_self, by rw [hf, e]⟩
  · obtain ⟨e, he, q⟩ := List.mem_filterMap.mp hm
    exact List.mem_filterMap.mpr ⟨e, List.mem_cons_of_mem _ he, q⟩
theorem Down.again {M : Model} {A : Around} {E : Value → Shared → Prop} {Q : Unit → Shared → Prop} (z : Down X pins a cls d σ H s) (k : ∀ s', Down X pins a cls d σ H s' → Q () s') : wpAny M A (setFlight (.ref a) none) Q E s := by
  obtain ⟨B, s0, I, nb, up, fl, na, os, ag⟩ := z
  exact HandSPX.lands_againZ fl fun h' fl' up' => k _ ⟨B, s0, I, nb, up.trans up', fl', na, os, ag⟩
/-- no clause takes it -/
theorem Down.pass {W : WX} {Q : Flow → Shared → Prop} (z : Down X pins a cls d σ H s) (hs : X.stack = X.env :: X.outer) (hf : X.env.frame = some X.env.locals) (tk : Takes X W) (w : W cls d σ H) : wpAny (model X.prog X.w) X.A (handleBy (.ref a) X.env []) Q X.xe s := by
  obtain ⟨B, s0, I, nb, up, fl, na, os, ag⟩ := z
  obtain ⟨oe, vs, T, oT, ts, h1, h2, h3, h4, _⟩ := id fl.2.2.2
  have out : wpAny (model X.prog X.w) X.A (setFlight (.ref a) X.env.frame) (fun _ s4 => wpAny (model X.prog X.w) X.A (throw (.ref a) : Sem Flow) Q X.xe s4) X.xe s := by
    rw [hf]
    exact HandSPX.setFlight_upZ fl fun h' held up' => wpAny_throw (tk _ _ ⟨a, B, s0, pins, σ, H, cls, d, rfl, I, nb, up.trans up', .inr (.inr (hs ▸ held)), na, os, ag, w⟩)
  apply wpAny_handleBy_nil
  unfold PySem.passOn
  refine wpAny_bind (wpAny_field h1 h3 h4 ?_)
  have ne : ¬ (Value.ref T == Value.none) = true := by simp
  rw [if_neg ne]
  first
    | exact wpAny_bind (wpAny_pure (wpAny_bind out))
    | exact wpAny_bind out
end
/-- a clause: its class, the slot of its name, its suite -/
abbrev Cla := Value × Option Nat × (Addr → Value → Option Addr → TS)
/-- where a suite ends: its name is gone -/
def goneE (D : Ends) : Option Nat → Ends
  | none => D
  | some i => { nx := fun σ H => D.nx (σ.set i none) H, rt := D.rt, bk := fun σ H => D.bk (σ.set i none) H, ct := fun σ H => D.ct (σ.set i none) H }
def nameS (σ : L2.St) (a : Addr) : Option Nat → L2.St
  | none => σ
  | some i => σ.set i (some (.ref a))
/-- what one clause wishes: that its class tells whether it takes the exception; if so its suite's wish, else W -/
def oneCla (K : PySem.W.Frag) (D : Ends) (c : Cla) (W : WX) : WX := fun cls d σ H =>
  (exmOne K cls c.1 = some true ∧ ∀ a, H a = none → c.2.2 a cls d (goneE D c.2.1) (nameS σ a c.2.1) H) ∨ (exmOne K cls c.1 = some false ∧ W cls d σ H)
def wCla (K : PySem.W.Frag) (Wout : WX) (D : Ends) (l : List Cla) : WX := l.foldr (oneCla K D) Wout
/-- these clauses deal with whatever W lets come down -/
def Deals (X : Cx) (D : Ends) (hds : List ExceptHandler) (W : WX) : Prop := ∀ (pins : List (Addr × Obj)) (a : Addr) (cls : Value) (d : Option Addr) (σ : L2.St) (H : Hp) (s : Shared),
  Down X pins a cls d σ H s → W cls d σ H → wpAny (model X.prog X.w) X.A (handleBy (.ref a) X.env hds) (SP X pins D) X.xe s
/-- a suite keeps its wish -/
def SuiteOk (X : Cx) (b0 : Stmt) (suite : List Stmt) (ts : Addr → Value → Option Addr → TS) : Prop :=
  ∀ (a : Addr) (oe : Obj) (cls : Value) (d : Option Addr) (pn : List (Addr × Obj)), Zc cls d oe → (∃ vs, oe.data = .fields vs) → PSs (X.suite a ((a, oe) :: pn)) (b0 :: suite) (ts a cls d)
section
variable {X : Cx} {pins : List (Addr × Obj)} {a : Addr} {cls : Value} {d : Option Addr} {σ : L2.St} {H : Hp} {s : Shared} {D : Ends} {Wout W : WX} {f : Flow}
theorem Deals.nil (hs : X.stack = X.env :: X.outer) (hf : X.env.frame = some X.env.locals) (tk : Takes X Wout) : Deals X D [] Wout := fun _ _ _ _ _ _ _ z w => z.pass hs hf tk w
/-- the end of a suite without a name, seen from outside -/
theorem SP.outward {q0 : List (Addr × Obj)} {X' : Cx} (e : SP X' q0 D f s) (k : ∀ σ1 H1, L2.Inv X' q0 σ1 H1 s → L2.Inv X pins σ1 H1 s) : SP X pins D f s := by
  rcases f with _ | _ | _ | u
  · obtain ⟨σ1, H1, J, y⟩ := e
    exact ⟨σ1, H1, k _ _ J, y⟩
  · obtain ⟨σ1, H1, J, y⟩ := e
    exact ⟨σ1, H1, k _ _ J, y⟩
  · obtain ⟨σ1, H1, J, y⟩ := e
    exact ⟨σ1, H1, k _ _ J, y⟩
  · obtain ⟨v, σ1, H1, J, y⟩ := e
    exact ⟨v, σ1, H1, k _ _ J, y⟩
/-- a clause's class, looked up where the suite will stand -/
theorem Down.class_read (z : Down X pins a cls d σ H s) (hf : X.env.frame = some X.env.locals) {x : Str} {c : Value} {p : Pos} (hc : Names X x c) {Q : Value → Shared → Prop} {E : Value → Shared → Prop} (k : Q c s) :
    wpAny (model X.prog X.w) (X.A.mark (some (.ref a))) (eval (.Name x p) X.env) Q E s := by
  obtain ⟨oe, vs, _, _, _, S⟩ := z.within hf
  obtain ⟨g, nd, m | ⟨m, v, nn⟩⟩ := hc
  · exact ld_glob (X := X.suite a ((a, oe) :: (X.pn ++ pins))) S g m k nd
  · exact ld_blt (X := X.suite a ((a, oe) :: (X.pn ++ pins))) S g m v k nn nd
/-- does the class at c take it? -/
theorem Down.asked (z : Down X pins a cls d σ H s) {c : Value} {b : Bool} (h : exmOne X.K cls c = some b) : PySem.W.Looks (model X.prog X.w) s.heap (excMatches (.ref a) c) b :=
  PySem.W.exm_one z.inv.kIn (fun A Q E s' kp q => by
    obtain ⟨oe, vs, at_, zc, _⟩ := z.obj
    exact wpAny_typeOf_ref (kp _ _ at_) (zc.1.symm ▸ q)) h
theorem Deals.plain (hf : X.env.frame = some X.env.locals) {x : Str} {c : Value} {ts : Addr → Value → Option Addr → TS} {b0 : Stmt} {suite : List Stmt} {p q : Pos} {hds : List ExceptHandler} (hc : Names X x c) (ok : SuiteOk X b0 suite ts) (rest : Deals X D hds W) :
    Deals X D (.ExceptHandler (some (.Name x p)) none (b0 :: suite) q :: hds) (oneCla X.K D (c, none, ts) W) := fun pins a cls d σ H s z w => by
  refine wpAny_handleBy_cons (codeAny_handlers_test (z.class_read hf hc ?_)) (fun e => by cases e)
  rcases w with ⟨hb, w⟩ | ⟨hb, w⟩ <;> refine (z.asked hb).here ?_
  · refine codeAny_handlers_suite (z.again fun s1 z1 => ?_)
    obtain ⟨oe, vs, dat, zc, _, S⟩ := z1.within hf
    have na : H a = none := z.elim fun _ r => r.elim fun _ r => r.2.2.2.2.1
    exact wpAny_mono ((ok a oe cls d (X.pn ++ pins) zc ⟨_, dat⟩).run [] s1 σ H D S (w a na)) (fun g s2 e => SP.outward e fun _ _ J => J.unsuite z.inv.ok) fun _ _ z => z.elim
  · exact rest pins a cls d σ H s z w
theorem Deals.named (hf : X.env.frame = some X.env.locals) (hN : X.N.Nodup) {x n : Str} {c : Value} {i : Nat} {ts : Addr → Value → Option Addr → TS} {b0 : Stmt} {suite : List Stmt} {p q : Pos} {hds : List ExceptHandler} (hc : Names X x c) (hi : X.N[i]? = some n) (hl : X.env.kindOf n = some .local)
    (ok : SuiteOk X b0 suite ts) (rest : Deals X D hds W) : Deals X D (.ExceptHandler (some (.Name x p)) (some n) (b0 :: suite) q :: hds) (oneCla X.K D (c, some i, ts) W) := fun pins a cls d σ H s z w => by
  refine wpAny_handleBy_cons (codeAny_handlers_test (z.class_read hf hc ?_)) (fun e => by cases e)
  rcases w with ⟨hb, w⟩ | ⟨hb, w⟩ <;> refine (z.asked hb).here ?_
  · refine codeAny_handlers_suite_as (z.again fun s1 z1 => ?_)
    obtain ⟨oe, vs, dat, zc, _, S⟩ := z1.within hf
    have na : H a = none := z.elim fun _ r => r.elim fun _ r => r.2.2.2.2.1
    refine store_ok (X := X.suite a ((a, oe) :: (X.pn ++ pins))) (v := .ref a) S hN hi (.inl hl) rfl (fun s2 S2 => ?_) (.inr hl)
    refine wpAny_mono ((ok a oe cls d (X.pn ++ pins) zc ⟨_, dat⟩).run [] s2 _ H (goneE D (some i)) S2 (w a na)) (fun g s3 e => ?_) fun _ _ z => z.elim
    rcases g with _ | _ | _ | u
    · obtain ⟨σ1, H1, J, y⟩ := e
      exact gone_ok (J.unsuite z.inv.ok) hN hi hl fun s4 J4 => ⟨_, H1, J4, y⟩
    · obtain ⟨σ1, H1, J, y⟩ := e
      exact gone_ok (J.unsuite z.inv.ok) hN hi hl fun s4 J4 => ⟨_, H1, J4, y⟩
    · obtain ⟨σ1, H1, J, y⟩ := e
      exact gone_ok (J.unsuite z.inv.ok) hN hi hl fun s4 J4 => ⟨_, H1, J4, y⟩
    · obtain ⟨v, σ1, H1, J, y⟩ := e
      exact gone_ok (J.unsuite z.inv.ok) hN hi hl fun s4 J4 => ⟨v, _, H1, J4, y⟩
  · exact rest pins a cls d σ H s z w
end
section
variable {X : Cx} {body : List Stmt} {h0 : ExceptHandler} {hds : List ExceptHandler} {l : List Cla} {pos : Pos} {tb : WX → TS} {Wout : WX}
/-- try: body, except .., except .. as .. -/
theorem ps_tryC (hs : X.stack = X.env :: X.outer) (hf : X.env.frame = some X.env.locals) (tk : Takes X Wout)
    (hb : ∀ (W : WX) (pn : List (Addr × Obj)) (xe : Value → Shared → Prop), Takes (X.tr pn xe) W → PassesOwn (model X.prog X.w) X.A X.env xe → PSs (X.tr pn xe) body (tb W))
    (hh : ∀ D, Deals X D [] Wout → Deals X D (h0 :: hds) (wCla X.K Wout D l)) : PS X (.Try body (h0 :: hds) [] [] pos) (fun D σ H => tb (wCla X.K Wout D l) D σ H) where
  run pins s σ H D I h := by
    have ok := I.ok
    have hfr : X.A.frames = some (X.env :: X.outer) := ok.frames.trans (congrArg some hs)
    apply wpAny_Try_except
    let xe : Value → Shared → Prop := fun e s1 => wpAny (model X.prog X.w) X.A (noteFrame e X.env) (fun _ s2 => wpAny (model X.prog X.w) X.A (setFlight e none) (fun _ s3 =>
      wpAny (model X.prog X.w) X.A (handleBy e X.env (h0 :: hds)) (SP X pins D) X.xe s3) X.xe s2) X.xe s1
    have catches : Takes (X.tr (X.pn ++ pins) xe) (wCla X.K Wout D l) := by
      rintro _ s' ⟨a, B, s0, pins', σ', H', cls, d, rfl, J, nb, up, sky, na, os, ag, w⟩
      have sky' : Sky B (X.env :: X.outer) a (Zc cls d) X.env.locals s'.heap := hs ▸ sky
      exact Sky.land Zc.steady hfr hf sky' fun h3 fl up3 => hh D (.nil hs hf tk) _ _ _ _ _ _ _ ⟨B, s0, J.ofTry ok, nb, up.trans up3, fl, na, os, ag⟩ w
    refine wpAny_mono ((hb _ (X.pn ++ pins) xe catches PassesOwn.looking).run [] s σ H D (I.toTry _) h) (fun f s1 e => ?_) fun _ _ z => z
    have back := SP.outward (X := X) (pins := pins) e fun _ _ J => J.ofTry ok
    cases f with
    | next => exact wpAny_execs_nil back
    | ret u => exact back
    | brk => exact back
    | cont => exact back
end
end DL

/-! EF: what several clauses do with an exception, by data (own work). -/
namespace DL
open PySem L2 PySem.W
/-- of the clauses l the one with oi, ts takes an exception of C1 -/
inductive Hit (K : PySem.W.Frag) (C1 : Addr) : List Cla → Option Nat → (Addr → Value → Option Addr → TS) → Prop
  | here {c : Value} {oi : Option Nat} {ts : Addr → Value → Option Addr → TS} {r : List Cla} (h : exmOne K (.ref C1) c = some true) : Hit K C1 ((c, oi, ts) :: r) oi ts
  | next {c : Value} {oi oj : Option Nat} {ts us : Addr → Value → Option Addr → TS} {r : List Cla} (h : exmOne K (.ref C1) c = some false) (k : Hit K C1 r oi ts) : Hit K C1 ((c, oj, us) :: r) oi ts
/-- the slots of a suite: the exception's name alone is told -/
def suiteR (n : Nat) (a : Addr) : Option Nat → Ro
  | none => List.replicate n none
  | some i => (List.replicate n none).set i (some (.val (.adr a)))
section
variable {K : PySem.W.Frag} {B F0 : Hp} {ro : Ro} {ka k1 k2 k3 kr : Cells} {ta : List (V × W)} {sg : L2.St} {H : Hp} {te tf : TE} {tr : TA} {C C1 : Addr} {gs : List (Str × D)} {E : XK} {De De' : Ends} {dx : Option Addr} {l : List Cla} {oi : Option Nat} {ts : Addr → Value → Option Addr → TS} {Wout : WX} {u : TS}
theorem En.wiped (e : En K B F0 ro ka ta sg H) {σ : L2.St} (h : σ.length = ro.length) : En K B F0 (List.replicate ro.length none) ka ta σ H :=
  let ⟨F, g, q⟩ := e
  ⟨F, g, q.frame (by rw [List.length_replicate, h]) fun i w z => by rw [List.getElem?_replicate] at z; split at z <;> cases z⟩
theorem hit_wish {D : Ends} {σ : L2.St} (hit : Hit K C1 l oi ts) (h : ∀ a, ts a (.ref C1) dx (goneE D oi) (nameS σ a oi) H) : wCla K Wout D l (.ref C1) dx σ H := by
  induction hit with
  | here hx => exact .inl ⟨hx, fun a _ => h a⟩
  | next hx _ ih => exact .inr ⟨hx, ih h⟩
theorem xw_cla (hit : Hit K C1 l oi ts) (h : ∀ a, Gp K B F0 ta (ts a (.ref C1) dx (goneE De oi)) (suiteR ro.length a oi) ka) (e : En K B F0 ro ka ta sg H) : XW ro.length (wCla K Wout De l) (.ref C1) dx H := fun σ hσ =>
  hit_wish hit fun a => by
    have e2 := e.wiped hσ
    cases oi with
    | none => exact h a σ H e2
    | some i => exact h a _ H (e2.setA i a)
/-- return of what raises an error with fields, caught -/
theorem g_retY (h : EvX K te ro ka (XW ro.length (wCla K Wout De l)) C1 gs k2) (hit : Hit K C1 l oi ts) (hs : ∀ a dx, Gp K B F0 ta (ts a (.ref C1) (some dx) (goneE De oi)) (suiteR ro.length a oi) (k2 ++ [(dx, .xd gs)])) : Gp K B F0 ta (tRet te De') ro ka := fun sg H e =>
  h B F0 ta sg H _ e fun dx H' e' => xw_cla hit (fun a => hs a dx) e'
/-- te ends with an error without fields -/
def EvX0 (K : PySem.W.Frag) (te : TE) (ro : Ro) (ka : Cells) (E : XK) (C1 : Addr) (k2 : Cells) : Prop := ∀ B F0 ta sg H (Q : VK), En K B F0 ro ka ta sg H → (∀ H', En K B F0 ro k2 ta sg H' → E (.ref C1) none H') → te sg H Q
theorem evx0_call {Cc : Ct} {ws : List W} {E' : XK} (ha : EvA K tr ro ka ws (k2 ++ kr)) (hC : Cc ws k2 (X0 C1 k3)) (hE : E' = E) : EvX0 K (tCall (spC K Cc) [] E' tr) ro ka E C1 (k3 ++ kr) := fun B F0 ta sg H Q e q => by
  subst hE
  refine ha B F0 ta sg H _ e fun vs H1 hl e1 => ?_
  rw [List.append_nil]
  exact sp_exc0 e1 hl hC (fun _ _ z => z) fun H' e3 => q H' e3
end
end DL

/-! EG: enumerate of lists (own work). -/
namespace DL
open PySem L2 PySem.W
section
variable {K : PySem.W.Frag} {ro : Ro} {ka k1 : Cells} {te : TE} {w : W}
end
end DL

namespace DL
open PySem L2 PySem.W
theorem at_last {β : Type} {xs : List β} {x : β} (h : xs.getLast? = some x) : atI xs (-1) = some x := by
  rw [List.getLast?_eq_getElem?] at h
  have hlt := (List.getElem?_eq_some_iff.mp h).1
  unfold atI ixN
  rw [if_neg (by decide), if_pos (by omega)]
  show xs[((-1 : Int) + (xs.length : Int)).toNat]? = some x
  rw [show ((-1 : Int) + (xs.length : Int)).toNat = xs.length - 1 by omega]
  exact h
end DL

/-! EH: for loops of the hand layer out of the library's Goes: what an iterator hands out, told once, serves every caller (own work). -/
namespace DL
open PySem L2 PySem.W PyProof.Rows
end DL

/-! EI: nothing of its own (kept for the order of the parts). -/

/-! EJ: for i, x in enumerate(t), t a tuple: the library's GoesN over its Draws.tuple, told for the hand layer (own work). -/
namespace DL
open PySem L2 PySem.W PyProof.Rows
/-- what stands at turn i: the count, the iterator; the three lie apart -/
structure EnT (a e it : Addr) (i : Nat) (h : Heap) : Prop where
  en : ∃ old, IsEnum h e it (0 + (i : Int)) old
  itr : h.IsTupleIter it a i
  apart : e ≠ it ∧ a ≠ it ∧ a ≠ e
namespace EnT
variable {a e it : Addr} {i : Nat} {h : Heap}
theorem cells (z : EnT a e it i h) : ∀ b ∈ [e, it], ∃ o, h.get? b = some o ∧ ∀ v, o.data ≠ .cell v := by
  obtain ⟨⟨_, x⟩, ⟨o, y, _, d⟩, _⟩ := z
  simp only [List.forall_mem_cons, List.not_mem_nil, false_imp_iff, implies_true, and_true]
  exact ⟨⟨_, x, fun _ c => nomatch c⟩, o, y, fun _ c => nomatch d.symm.trans c⟩
theorem le (z : EnT a e it i h) {b T : Addr} (hb : b ∈ [e, it]) (hT : h.objs.size ≤ T) : b ≠ T := fun q =>
  let ⟨_, y, _⟩ := z.cells b hb
  Nat.lt_irrefl _ (Nat.lt_of_lt_of_le (q ▸ Heap.lt_size y) hT)
theorem out (z : EnT a e it i h) : e ∉ [it, a] := by
  have := z.apart
  simp only [List.mem_cons, List.not_mem_nil, or_false, not_or]
  exact ⟨this.1, this.2.2.symm⟩
end EnT
end DL

/-! EK: enumerate of lists and tuples alike (own work). -/
namespace DL
open PySem L2 PySem.W
section
variable {K : PySem.W.Frag} {ro : Ro} {ka k1 : Cells} {te : TE} {w : W}
end
end DL
namespace DL
open PySem L2 PySem.W
section
variable {K : PySem.W.Frag} {B F0 : Hp} {ro : Ro} {ka : Cells} {ta : List (V × W)} {De : Ends} {t u : TS}
theorem Gp.up {ta' : List (V × W)} {P : L2.St → Hp → Prop} (h : Gp K B F0 ta P ro ka) (s : ∀ p ∈ ta, p ∈ ta') : Gp K B F0 ta' P ro ka := fun sg H e => h sg H (e.held s)
end
/-! ### x not in y, y a text, a list, a tuple or a dict -/
def rDNi : R2 := fun x y H Q => ∃ a o, y = .ref a ∧ DGet H a x o ∧ Q (.bl (!o.isSome)) H
def rNiD (K : PySem.W.Frag) : R2 := fun x y H Q => rNiU K x y H Q ∨ rDNi x y H Q
section
variable {X : Cx}
theorem op_dni (hu : X.A.units + 1 < cLine) : OpR X (compareOp .NotIn) rDNi := fun pins s sg H x y v u Q I rx ry h => by
  obtain ⟨a, o, rfl, g, q⟩ := h
  obtain rfl : u = Value.ref a := ry
  exact d_notIn hu I g rx fun s' I' => ⟨.bl (!o.isSome), H, I', rfl, q⟩
theorem op_niD (hu : X.A.units + 1 < cLine) : OpR X (compareOp .NotIn) (rNiD X.K) := op_niU.or (op_dni hu)
end
/-- w holds the texts ys: a list or tuple of them, or a dict with these keys -/
inductive HasS (ka : Cells) : W → List Str → Prop where
  | sq {w : W} {t b : Bool} {ys : List Str} (l : Lk ka w t (stD ys) b) : HasS ka w ys
  | dc {w : W} {ds : List (Key × D)} {b : Bool} {ys : List Str} (l : Dk ka w ds b) (h : ∀ s, (getT ds (.inr s)).isSome = decide (s ∈ ys)) : HasS ka w ys
section
variable {K : PySem.W.Frag} {ro : Ro} {ka k1 k2 : Cells} {te tf : TE} {y : W}
theorem rv_dni {s : Str} {ds : List (Key × D)} {b : Bool} (l : Dk ka y ds b) : RvD K rDNi ka (.val (.str s)) y (.val (.bl (!(getT ds (.inr s)).isSome))) := fun B F0 ro ta sg H u v Q e h1 h2 q => by
  obtain rfl := e.tm_str h1
  obtain ⟨F, a, xs, g, ef, rfl, h3, h4⟩ := e.dk l h2
  have hg := (rpk_pt.mp h4).get (.inr s)
  refine ⟨a, getT xs (.inr s), rfl, .inl ⟨xs, .inr s, h3, rfl, rfl⟩, q _ _ ?_⟩
  have e5 := e.push_imm (v := .bl (!(getT xs (.inr s)).isSome)) (w := .val (.bl (!(getT xs (.inr s)).isSome))) fun _ => rfl
  cases hd : getT ds (.inr s) with
  | none => rw [hg.1 hd] at e5 ⊢; exact e5
  | some d =>
    obtain ⟨x, hx, _⟩ := hg.2 d hd
    rw [hx] at e5 ⊢
    exact e5
theorem ev_niH {s : Str} {ys : List Str} (h : EvD K te ro ka (.val (.str s)) k1) (h2 : EvD K tf ro k1 y k2) (l : HasS k2 y ys) : EvD K (tOp (rNiD K) te tf) ro ka (.val (.bl (!decide (s ∈ ys)))) k2 := by
  cases l with
  | sq l => exact ev_op h h2 (rvd_l (rvd_r (rv_inL (neg := true) l)))
  | dc l hs => exact (ev_op h h2 (rvd_r (rv_dni l))).to (by rw [hs])
end
end DL

/-! EL: cells frozen for the length of one expression, then cells again (own work). -/
namespace DL
open PySem L2 PySem.W
/-! ### data that reads no cell: numbers, texts, tuples of these -/
mutual
def tI : D → Bool
  | .lst _ => false | .dic _ => false | .dit _ => false | .ins _ _ => false | .din _ _ => false
  | .tup xs => tIL xs
  | _ => true
def tIL : List D → Bool
  | [] => true
  | d :: ds => tI d && tIL ds
end
section
variable {K : PySem.W.Frag} {B B' F F' F0 H H' : Hp} {ro ro' : Ro} {ka k1 k2 k3 kr kt : Cells} {ta tb : List (V × W)} {sg sg' : L2.St} {te tf : TE} {tt : TT} {w x y : W} {n : Nd} {a : Addr} {C : Addr}
/-- the heap F with the cells kt of H put in -/
def thF (F H : Hp) (kt : Cells) : Hp := fun a => if a ∈ kt.map (·.1) then H a else F a
theorem thF_in {a : Addr} (h : a ∈ kt.map (·.1)) : thF F H kt a = H a := if_pos h
theorem thF_out {a : Addr} (h : a ∉ kt.map (·.1)) : thF F H kt a = F a := if_neg h
theorem thF_sub (h : ∀ p ∈ kt, F p.1 = none) : Sub F (thF F H kt) := fun a o e => by
  rw [thF_out fun m => ?_]
  · exact e
  · obtain ⟨p, hp, rfl⟩ := List.mem_map.mp m
    rw [h p hp] at e
    cases e
/-- cells of the three kinds -/
def ndK : Nd → Bool
  | .lst _ => true | .dic _ => true | .ins _ _ => true
  | _ => false
theorem ndok_kind {a : Addr} (h : NdOk K F H a n) (k : ndK n = true) : ∃ o, H a = some o ∧ isfz o = false ∧ ∀ xs, o ≠ .tup xs := by
  cases n with
  | lst ds => obtain ⟨xs, e, _⟩ := h; exact ⟨_, e, rfl, fun _ z => nomatch z⟩
  | dic ds => obtain ⟨xs, e, _⟩ := h; exact ⟨_, e, rfl, fun _ z => nomatch z⟩
  | ins C ds => obtain ⟨dx, xs, e, _⟩ := h; exact ⟨_, e, rfl, fun _ z => nomatch z⟩
  | _ => cases k
/-- what is known of cells that are put in -/
structure Thw (K : PySem.W.Frag) (F H : Hp) (kt : Cells) : Prop where
  no : ∀ p ∈ kt, F p.1 = none
  ok : ∀ p ∈ kt, NdOk K F H p.1 p.2
  kd : ∀ p ∈ kt, ndK p.2 = true
theorem Thw.gr (t : Thw K F H kt) (hB : ∀ p ∈ kt, B p.1 = none) : Gr B F (thF F H kt) := ⟨thF_sub t.no, fun a h1 h2 => by
  rw [thF_out fun m => ?_]
  · exact h1
  · obtain ⟨p, hp, rfl⟩ := List.mem_map.mp m
    exact h2 (hB p hp)⟩
theorem EnF.thw (e : EnF K B F ro (k1 ++ kt) ta sg H) (kd : ∀ p ∈ kt, ndK p.2 = true) : Thw K F H kt := ⟨fun p hp => (e.ce p (List.mem_append_right _ hp)).1, fun p hp => (e.ce p (List.mem_append_right _ hp)).2.2, kd⟩
theorem EnF.thB (e : EnF K B F ro (k1 ++ kt) ta sg H) : ∀ p ∈ kt, B p.1 = none := fun p hp => (e.ce p (List.mem_append_right _ hp)).2.1
theorem EnF.apart (e : EnF K B F ro (k1 ++ kt) ta sg H) {p : Addr × Nd} (hp : p ∈ k1) : p.1 ∉ kt.map (·.1) := fun m => by
  have nd := e.nd
  rw [List.map_append, List.nodup_append] at nd
  exact nd.2.2 p.1 (List.mem_map.mpr ⟨p, hp, rfl⟩) p.1 m rfl
/-- the cells kt go into what is frozen -/
theorem EnF.th_in (e : EnF K B F ro (k1 ++ kt) ta sg H) (kd : ∀ p ∈ kt, ndK p.2 = true) : EnF K (thF B H kt) (thF F H kt) ro k1 ta sg H := by
  have t := e.thw kd
  have hB := e.thB
  have gr := t.gr hB
  have sB : Sub B (thF B H kt) := thF_sub hB
  have nz : Nz (thF F H kt) := fun a u h => by
    by_cases m : a ∈ kt.map (·.1)
    · rw [thF_in m] at h
      obtain ⟨p, hp, rfl⟩ := List.mem_map.mp m
      obtain ⟨o, ho, hz, _⟩ := ndok_kind (t.ok p hp) (kd p hp)
      rw [ho] at h
      cases h
      exact hz
    · rw [thF_out m] at h
      exact e.nz a u h
  refine ⟨nz, fun a u h => ?_, fun a u h => ?_, ?_, fun p hp => ?_, e.ln, fun i w h => ?_, fun p hp => wok_subB nz sB (wok_gr e.nz gr (e.tm p hp))⟩
  · by_cases m : a ∈ kt.map (·.1)
    · rw [thF_in m] at h
      exact .inl h
    · rw [thF_out m] at h
      exact e.fz a u h
  · by_cases m : a ∈ kt.map (·.1)
    · rw [thF_in m] at h
      exact h
    · rw [thF_out m] at h
      exact e.fr a u h
  · have nd := e.nd
    rw [List.map_append, List.nodup_append] at nd
    exact nd.1
  · obtain ⟨c1, c2, c3⟩ := e.ce p (List.mem_append_left _ hp)
    have m := e.apart hp
    exact ⟨by rw [thF_out m]; exact c1, by rw [thF_out m]; exact c2, ndok_gr e.nz gr c3⟩
  · obtain ⟨v, h1, h2⟩ := e.sl i w h
    exact ⟨v, h1, wok_subB nz sB (wok_gr e.nz gr h2)⟩
/-! ### data that reads no cell stays without the cells -/
section
variable (no : ∀ b ∈ kt.map (·.1), ∃ o, F' b = some o ∧ isfz o = false ∧ ∀ xs, o ≠ .tup xs)
include no
theorem sqt_off {b : Addr} {xs : List V} (h : SqT K F' b xs) : SqT K (off F' kt) b xs := by
  rcases h with h | h
  · have m : b ∉ kt.map (·.1) := fun m => by
      obtain ⟨o, h1, h2, h3⟩ := no b m
      rcases h with h | ⟨z, h⟩
      · rw [h1] at h
        exact h3 _ (Option.some.inj h)
      · rw [h1] at h
        cases h
        cases h2
    exact .inl (h.elim (fun q => .inl (by rw [off_out m]; exact q)) fun ⟨z, q⟩ => .inr ⟨z, by rw [off_out m]; exact q⟩)
  · exact .inr h
mutual
theorem rp_off : ∀ (d : D) (v : V), tI d = true → Rp K F' d v → Rp K (off F' kt) d v
  | .non, v, _, h => h
  | .bl _, v, _, h => h
  | .int _, v, _, h => h
  | .str _, v, _, h => h
  | .ty _, v, _, h => h
  | .adr _, v, _, h => h
  | .tup ds, v, t, h => by
    obtain ⟨b, xs, e, h1, h2⟩ := h
    exact ⟨b, xs, e, sqt_off no h1, rpl_off ds xs t h2⟩
theorem rpl_off : ∀ (ds : List D) (xs : List V), tIL ds = true → RpL K F' ds xs → RpL K (off F' kt) ds xs
  | [], xs, _, h => h
  | d :: ds, xs, t, h => by
    obtain ⟨x, ys, e, h1, h2⟩ := h
    rw [tIL, Bool.and_eq_true] at t
    exact ⟨x, ys, e, rp_off d x t.1 h1, rpl_off ds ys t.2 h2⟩
end
end
end
/-! ### what a cell stands for -/
/-- the cell at a, with what stands behind it among kt, is the data d -/
def FrzD (K : PySem.W.Frag) (kt : Cells) (a : Addr) (d : D) : Prop := ∀ F H, Nz F → Thw K F H kt → Rp K (thF F H kt) d (.ref a)
/-- the same, or a cell and what it stands for -/
inductive FzR (K : PySem.W.Frag) (kt : Cells) : D → D → Prop where
  | s (d : D) : FzR K kt d d
  | a {a : Addr} {d : D} (h : FrzD K kt a d) : FzR K kt (.adr a) d
section
variable {K : PySem.W.Frag} {F H : Hp} {kt : Cells} {a : Addr} {C : Addr}
theorem FzR.rp {d e : D} {v : V} (z : FzR K kt d e) (nz : Nz F) (t : Thw K F H kt) (h : Rp K F d v) : Rp K (thF F H kt) e v := by
  cases z with
  | s => exact Rp.mono (thF_sub t.no).exz nz _ _ h
  | a q =>
    obtain rfl : v = _ := h
    exact q F H nz t
def FzL (K : PySem.W.Frag) (kt : Cells) : List D → List D → Prop
  | [], es => es = []
  | d :: ds, es => ∃ e r, es = e :: r ∧ FzR K kt d e ∧ FzL K kt ds r
theorem FzL.same : ∀ ds : List D, FzL K kt ds ds
  | [] => rfl
  | d :: ds => ⟨d, ds, rfl, .s d, FzL.same ds⟩
theorem FzL.rp (nz : Nz F) (t : Thw K F H kt) : ∀ {ds es : List D} {xs : List V}, FzL K kt ds es → RpL K F ds xs → RpL K (thF F H kt) es xs
  | [], es, xs, z, h => by
    obtain rfl : es = [] := z
    exact h
  | d :: ds, es, xs, ⟨e, r, e1, z1, z2⟩, ⟨x, ys, e2, h1, h2⟩ => by
    subst e1
    exact ⟨x, ys, e2, z1.rp nz t h1, FzL.rp nz t z2 h2⟩
def FzF (K : PySem.W.Frag) (kt : Cells) : List (Str × D) → List (Str × D) → Prop
  | [], es => es = []
  | (k, d) :: ds, es => ∃ e r, es = (k, e) :: r ∧ FzR K kt d e ∧ FzF K kt ds r
theorem FzF.rp (nz : Nz F) (t : Thw K F H kt) : ∀ {ds es : List (Str × D)} {xs : List (Str × V)}, FzF K kt ds es → RpF K F ds xs → RpF K (thF F H kt) es xs
  | [], es, xs, z, h => by
    obtain rfl : es = [] := z
    exact h
  | (k, d) :: ds, es, xs, ⟨e, r, e1, z1, z2⟩, ⟨x, ys, e2, h1, h2⟩ => by
    subst e1
    exact ⟨x, ys, e2, z1.rp nz t h1, FzF.rp nz t z2 h2⟩
theorem frz_l {ds es : List D} (m : (a, Nd.lst ds) ∈ kt) (z : FzL K kt ds es) : FrzD K kt a (.lst es) := fun F H nz t => by
  obtain ⟨xs, h, r⟩ := t.ok _ m
  exact ⟨a, xs, rfl, .inl (by rw [thF_in (List.mem_map.mpr ⟨_, m, rfl⟩)]; exact h), z.rp nz t r⟩
theorem frz_d {ds : List (Key × D)} (m : (a, Nd.dic ds) ∈ kt) : FrzD K kt a (.dic ds) := fun F H nz t => by
  obtain ⟨xs, h, r⟩ := t.ok _ m
  exact ⟨a, xs, rfl, .inl (by rw [thF_in (List.mem_map.mpr ⟨_, m, rfl⟩)]; exact h), RpK.mono (thF_sub t.no).exz nz _ _ r⟩
theorem frz_i {ds es : List (Str × D)} (m : (a, Nd.ins C ds) ∈ kt) (z : FzF K kt ds es) : FrzD K kt a (.ins C es) := fun F H nz t => by
  obtain ⟨dx, xs, h, r⟩ := t.ok _ m
  exact ⟨a, dx, xs, rfl, .inl (by rw [thF_in (List.mem_map.mpr ⟨_, m, rfl⟩)]; exact h), z.rp nz t r⟩
end
/-- the slots ro' are those of ro, but for cells that are told as what they stand for -/
structure RoT (K : PySem.W.Frag) (kt : Cells) (ro ro' : Ro) : Prop where
  len : ro'.length = ro.length
  at' : ∀ (i : Nat) (w : W), ro'[i]? = some (some w) → ro[i]? = some (some w) ∨ ∃ (a : Addr) (d : D), w = W.val d ∧ ro[i]? = some (some (W.val (.adr a))) ∧ FrzD K kt a d
section
variable {K : PySem.W.Frag} {B F F0 H H' : Hp} {ro ro' : Ro} {ka k1 k2 k3 kr kt : Cells} {ta tb : List (V × W)} {sg sg' : L2.St} {te tf : TE} {tt : TT} {w x y : W} {n : Nd} {a : Addr} {d : D}
theorem RoT.refl : RoT K kt ro ro := ⟨rfl, fun _ _ h => .inl h⟩
theorem RoT.set {i : Nat} (r : RoT K kt ro ro') (hi : ro[i]? = some (some (.val (.adr a)))) (z : FrzD K kt a d) : RoT K kt ro (ro'.set i (some (.val d))) := ⟨by rw [List.length_set]; exact r.len, fun j w h => by
  rw [List.getElem?_set] at h
  split at h
  · rename_i e
    subst e
    split at h
    · cases h
      exact .inr ⟨a, d, rfl, hi, z⟩
    · cases h
  · exact r.at' j w h⟩
theorem EnF.th_ro (e : EnF K B F ro (k1 ++ kt) ta sg H) (kd : ∀ p ∈ kt, ndK p.2 = true) (r : RoT K kt ro ro') : EnF K (thF B H kt) (thF F H kt) ro' k1 ta sg H := by
  have e1 := e.th_in kd
  refine { e1 with ln := e1.ln.trans r.len.symm, sl := fun i w h => ?_ }
  rcases r.at' i w h with h | ⟨a, d, rfl, h, z⟩
  · exact e1.sl i w h
  · obtain ⟨v, h1, h2⟩ := e1.sl i _ h
    obtain rfl : v = .ref a := h2
    exact ⟨_, h1, z F H e.nz (e.thw kd)⟩
end
end DL

/-! EM: in and bool by an own class's methods; d.pop(k) (own work). -/
namespace DL
open PySem PySem.Spec PyProof.Rows L2 PySem.W
section
variable {X : Cx} {CX : CXT} {k : Nat} {C f : Addr} {fd : FuncData} {ps : List Str} {sp : Sp} {E : XK}
end
end DL
namespace DL
open PySem L2 PySem.W
section
variable {X : Cx} {k : Nat} {C f : Addr} {ps : List Str} {E : XK} {Ct' : Ct}
end
section
variable {K : PySem.W.Frag} {B F0 : Hp} {ro : Ro} {ka k1 k2 kr : Cells} {ta : List (V × W)} {te tf td ty : TE} {x y : W} {C a : Addr} {fs : List (Str × D)} {b : Bool} {E : XK} {De : Ends} {u : TS}
end
end DL
namespace DL
open PySem L2 PySem.W
/-- a def with defaults, called without them or with all -/
def FnE (P : Program) (w : World) (K : PySem.W.Frag) (mg : Str → Option Value) (base : Heap) (k : Nat) (f : Addr) (ps : List Str) (dvs : List V) (C : Ct) : Prop :=
  ∃ fd, FnOk P w K mg base (L2.CX P w) k f fd ps (spC K C) ∧ (∃ ds, Vals dvs ds ∧ Binds K fd ps ds) ∧ ∃ ds, Vals [] ds ∧ Binds K fd ps ds
section
variable {P : Program} {w : World} {K : PySem.W.Frag} {mg : Str → Option Value} {base : Heap} {k : Nat} {f : Addr} {ps N : List Str} {dvs : List V} {C : Ct} {x qual : Str} {params : Arguments} {body : List Stmt} {scope : Scope} {fd : FuncData}
theorem FnE.d (F : FnE P w K mg base k f ps dvs C) : FnD P w K mg base k f ps dvs C := let ⟨fd, a, b, _⟩ := F; ⟨fd, a, b⟩
theorem FnE.a (F : FnE P w K mg base k f ps dvs C) : Fn P w K mg base k f ps C := by
  obtain ⟨fd, a, _, ds, v, b⟩ := F
  cases v
  exact ⟨fd, a, b⟩
theorem fn_okE (F : FunD K x qual params body scope dvs [] f fd) (S : FnScope N ps scope) (hb : ∃ ds, Vals dvs ds ∧ Binds K fd ps ds) (hb2 : ∃ ds, Vals [] ds ∧ Binds K fd ps ds) (hl : ∀ ws ka out, C ws ka out → ws.length = ps.length)
    (h : ∀ (cdv : Value) (A : Around) (outer : List Env) (s : Shared) (H : Hp) (E : XK), Room k (A.deeper (PyProof.Rows.envOfC qual scope s.heap.objs.size f cdv)) →
      ∃ t, PSs (cxOf (L2.CX P w) P w K mg base N qual scope f cdv A outer s H E) body t ∧
        ∀ ws ka out B F0 Q, C ws ka out → RtOk K B F0 out Q → RxOk K B F0 out E → Gp K B F0 [] (t { nx := fun _ H' => Q .non H', rt := Q }) (ws.map some ++ List.replicate (N.length - ps.length) none) ka) : FnE P w K mg base (k + 1) f ps dvs C := by
  exact ⟨fd, fn_okG F S hl h, hb, hb2⟩
end
end DL
namespace DL
open PySem L2 PySem.W
/-- an own error that the law never raises: nothing is said of its __init__ -/
def spF : Sp := fun _ _ _ _ => False
structure Xf (P : Program) (w : World) (K : PySem.W.Frag) (mg : Str → Option Value) (base : Heap) (C : Addr) : Prop where
  xc : Xc K C
  ex : ∃ fI fd ps, findIn K (.ref C) "__init__" = some (some (.ref fI)) ∧ typeIn K (.ref fI) = some (.type "function") ∧ FnOk P w K mg base (L2.CX P w) 1 fI fd ps spF ∧ Binds K fd ps []
namespace Xf
variable {P : Program} {w : World} {K : PySem.W.Frag} {mg : Str → Option Value} {base : Heap} {C : Addr}
noncomputable def fI (Z : Xf P w K mg base C) : Addr := Classical.choose Z.ex
noncomputable def fd (Z : Xf P w K mg base C) : FuncData := Classical.choose (Classical.choose_spec Z.ex)
noncomputable def px (Z : Xf P w K mg base C) : List Str := Classical.choose (Classical.choose_spec (Classical.choose_spec Z.ex))
theorem all (Z : Xf P w K mg base C) : findIn K (.ref C) "__init__" = some (some (.ref Z.fI)) ∧ typeIn K (.ref Z.fI) = some (.type "function") ∧ FnOk P w K mg base (L2.CX P w) 1 Z.fI Z.fd Z.px spF ∧ Binds K Z.fd Z.px [] :=
  Classical.choose_spec (Classical.choose_spec (Classical.choose_spec Z.ex))
end Xf
end DL

/-! EN: any cells frozen for good, returns by a word, orders of cells (own work). -/
namespace DL
open PySem L2 PySem.W
section
variable {K : PySem.W.Frag} {B F F0 H : Hp} {ro ro' : Ro} {ka kb k1 k2 k3 kr kt : Cells} {ta : List (V × W)} {sg : L2.St} {te : TE} {tt : TT} {w : W} {n : Nd} {P : L2.St → Hp → Prop} {De : Ends} {b : Bool} {Q : W → Cells → Prop}
theorem EnF.frzT (e : EnF K B F ro (k1 ++ kt) ta sg H) (kd : ∀ p ∈ kt, ndK p.2 = true) (r : RoT K kt ro ro') : Gr B F (thF F H kt) ∧ EnF K B (thF F H kt) ro' k1 ta sg H := by
  have e1 := e.th_ro kd r
  have t := e.thw kd
  have hu : uni (thF B H kt) (thF F H kt) = uni B (thF F H kt) := funext fun a => by
    unfold uni
    by_cases m : a ∈ kt.map (·.1)
    · obtain ⟨p, hp, rfl⟩ := List.mem_map.mp m
      obtain ⟨o, ho, _⟩ := ndok_kind (t.ok p hp) (kd p hp)
      rw [thF_in m, ho]
    · rw [thF_out (F := B) m]
  have hw : ∀ v w, WOk K (thF B H kt) (thF F H kt) v w → WOk K B (thF F H kt) v w := fun v w h => by
    cases w with
    | val d => exact h
    | vw d =>
      show Rp K (uni B _) d v
      rw [← hu]
      exact h
  exact ⟨t.gr e.thB, e1.nz, e1.fz, e.fr, e1.nd, fun p hp => ⟨(e1.ce p hp).1, (e.ce p (List.mem_append_left _ hp)).2.1, (e1.ce p hp).2.2⟩, e1.ln, fun i w h => let ⟨v, a, b⟩ := e1.sl i w h; ⟨v, a, hw _ _ b⟩, fun p hp => hw _ _ (e1.tm p hp)⟩
/-- the cells kt are frozen, with what stands behind them -/
theorem Gp.frzT (kt : Cells) (hp : (kr ++ kt).Perm ka) (kd : ∀ p ∈ kt, ndK p.2 = true) (r : RoT K kt ro ro') (h : Gp K B F0 ta P ro' kr) : Gp K B F0 ta P ro ka := fun sg H e => by
  obtain ⟨F, g, e⟩ := e.perm hp
  obtain ⟨g2, e2⟩ := e.frzT kd r
  exact h sg H ⟨_, g.trans g2, e2⟩
/-- a return of which a word tells -/
theorem g_retE {out : Oc} (hr : RtOk K B F0 out De.rt) (h : EvR K te ro ka Q) (o : ∀ w k, Q w k → ∃ d, w = .val d ∧ out (.ret d) k) : Gp K B F0 ta (tRet te De) ro ka := fun sg H e => h B F0 ta sg H _ e fun w k v H' q e' => by
  obtain ⟨d, rfl, ho⟩ := o w k q
  exact hr d k v H' ho e'.leave
theorem EvD.pm (h : EvD K te ro k1 w k2) (s1 : k1.Perm ka) (s2 : k2.Perm kb) : EvD K te ro ka w kb := fun B F0 ta sg H Q e q => h B F0 ta sg H Q (e.perm s1) fun v H' e' => q v H' (e'.perm s2.symm)
theorem EvT.pm (h : EvT K tt ro k1 b k2) (s1 : k1.Perm ka) (s2 : k2.Perm kb) : EvT K tt ro ka b kb := fun B F0 ta sg H Q e q => h B F0 ta sg H Q (e.perm s1) fun H' e' => q H' (e'.perm s2.symm)
theorem EvR.pm (h : EvR K te ro k1 Q) (s1 : k1.Perm ka) : EvR K te ro ka Q := fun B F0 ta sg H Q e q => h B F0 ta sg H Q (e.perm s1) q
theorem EvR.fr {P2 : W → Cells → Prop} (h : EvR K te ro k1 P2) (kr : Cells) (hP : ∀ w k, P2 w k → ∃ d, w = .val d) : EvR K te ro (k1 ++ kr) (fun w k => ∃ k0, P2 w k0 ∧ k = k0 ++ kr) := fun B F0 ta sg H Q e q => by
  obtain ⟨F, g, e⟩ := e
  refine h (off H k1) F [] sg H _ ⟨F, Gr.refl _ _, e.into e.ln (fun i w h => e.sl i w h) (fun p hp => by cases hp)⟩ fun w k v H' p e' => ?_
  obtain ⟨F', g', e'⟩ := e'
  obtain ⟨d, rfl⟩ := hP w k p
  obtain ⟨g2, e2⟩ := e.back g' e' (tb := (v, .val d) :: ta) fun p hp => by
    rcases List.mem_cons.mp hp with rfl | hp
    · exact .inr ⟨d, rfl, List.mem_cons_self⟩
    · exact .inl hp
  exact q _ _ v H' ⟨k, p, rfl⟩ ⟨F', g.trans g2, e2⟩
end
end DL
namespace DL
open PySem L2 PySem.W
section
variable {K : PySem.W.Frag} {ro : Ro} {ka k1 k2 : Cells} {ty td : TE} {P : W → Cells → Prop}
/-- text not in d, d told by a word -/
theorem ev_dniR {s : Str} {bb : Bool} (h : EvD K ty ro ka (.val (.str s)) k1) (h2 : EvR K td ro k1 P) (hP : ∀ w k, P w k → k = k2 ∧ ∃ ds b, Dk k w ds b ∧ (getT ds (.inr s)).isSome = bb) : EvD K (tDNotIn ty td) ro ka (.val (.bl (!bb))) k2 := fun B F0 ta sg H Q e q =>
  h B F0 ta sg H _ e fun u H1 e1 => h2 B F0 _ sg H1 _ e1 fun w k v H2 p e2 => by
    obtain ⟨rfl, ds, b, l, hb⟩ := hP w k p
    obtain rfl := e2.tm_str (v := u) (i := s) (List.mem_cons_of_mem _ List.mem_cons_self)
    obtain ⟨F, a, xs, g, ef, rfl, h3, h4⟩ := e2.dk l List.mem_cons_self
    have hg := (rpk_pt.mp h4).get (.inr s)
    have hx : (getT xs (.inr s)).isSome = bb := by
      rw [← hb]
      cases hd : getT ds (.inr s) with
      | none => rw [hg.1 hd]; rfl
      | some d => obtain ⟨x, hx, _⟩ := hg.2 d hd; rw [hx]; rfl
    refine ⟨a, getT xs (.inr s), rfl, .inl ⟨xs, .inr s, h3, rfl, rfl⟩, q _ _ ?_⟩
    rw [hx]
    exact (e2.held (ta' := ta) fun p hp => List.mem_cons_of_mem _ (List.mem_cons_of_mem _ hp)).push_imm fun _ => rfl
end
end DL
namespace DL
open PySem L2 PySem.W
/-- a test of whose end a word tells -/
def EvTR (K : PySem.W.Frag) (tt : TT) (ro : Ro) (ka : Cells) (R : Bool → Cells → Prop) : Prop := ∀ B F0 ta sg H (Q : Bool → Hp → Prop), En K B F0 ro ka ta sg H → (∀ b k H', R b k → En K B F0 ro k ta sg H' → Q b H') → tt sg H Q
section
variable {K : PySem.W.Frag} {B F0 : Hp} {ro : Ro} {ka k1 k2 : Cells} {ta : List (V × W)} {tt tu : TT} {De : Ends} {t t' u : TS} {R : Bool → Cells → Prop} {a b : Bool}
theorem q_whenR (h : EvTR K tt ro ka R) (h1 : ∀ k, R true k → Gp K B F0 ta (t { De with nx := u De }) ro k) (h2 : ∀ k, R false k → Gp K B F0 ta (u De) ro k) : Gp K B F0 ta (tSeq (tIfS tt t tNext) u De) ro ka := fun sg H e => h B F0 ta sg H _ e fun b k H' r e' => by
  cases b with
  | true => exact h1 k r sg H' e'
  | false => exact h2 k r sg H' e'
theorem etr_and (h : EvT K tt ro ka a k1) (hF : a = false → R false k1) (h2 : a = true → EvTR K tu ro k1 R) : EvTR K (tAnd tt tu) ro ka R := fun B F0 ta sg H Q e q => h B F0 ta sg H _ e fun H' e' => by
  cases a with
  | false => exact q false k1 H' (hF rfl) e'
  | true => exact h2 rfl B F0 ta sg H' Q e' q
theorem EvT.toTR (h : EvT K tt ro ka a k1) (r : R a k1) : EvTR K tt ro ka R := fun B F0 ta sg H Q e q => h B F0 ta sg H _ e fun H' e' => q a k1 H' r e'
end
end DL
namespace DL
open PySem L2 PySem.W
section
variable {K : PySem.W.Frag} {ro : Ro} {ka k1 k2 : Cells} {te : TE} {tr : TA} {C C1 : Addr} {gs : List (Str × D)} {E : XK} {ws : List W} {Cc : Ct}
end
end DL
namespace DL
open PySem L2 PySem.W
section
variable {K : PySem.W.Frag} {ro : Ro} {ka k1 k2 : Cells} {te : TE} {tt : TT} {C : Addr} {fs : List (Str × D)} {b : Bool} {w : W} {E : XK} {Cc : Ct} {P : W → Cells → Prop} {R : Bool → Cells → Prop}
end
end DL

/-! EO: the head's look, from the names that a text wants alone (own work). -/
namespace DL
open PySem L2 PySem.W
/-- the addresses that are not yet in the mask m, each once -/
def freshA {α : Type} : List Addr → Nat → List Addr → (List Addr → Nat → α) → α
  | [], m, acc, k => k acc m
  | a :: r, m, acc, k => HandSHeadRun.frNat a fun b => if Nat.beq ((m >>> b) % 2) 1 then freshA r m acc k else HandSHeadRun.frNat (m + (1 <<< b)) fun m2 => freshA r m2 (b :: acc) k
/-- what these reach in n steps -/
def walkA (g : Addr → Option Obj) : Nat → Nat → List Addr → List Addr → List Addr
  | 0, _, _, all => all
  | n + 1, m, fr, all => freshA (fr.flatMap fun a => match g a with
      | some o => He.refsD o
      | none => []) m [] fun new m2 => walkA g n m2 new (all ++ new)
def rootsA (g : Addr → Option Obj) (nm : List Str) : List Addr := nm.filterMap fun x => match nsIn (He.frG g [mainGlobals]) mainGlobals x with
  | some (some (.ref a)) => some a
  | _ => none
def asZ (g : Addr → Option Obj) (nm : List Str) (n : Nat) : List Addr := freshA (rootsA g nm) ((1 <<< mainGlobals) ||| (1 <<< builtinsNs)) [] fun rs m => mainGlobals :: walkA g n m rs rs
def obsZG (n : Nat) (nm : List Str) (ex : List Fx) (fn : List Df) (g : Addr → Option Obj) : AlY := lookY ex fn (He.frG g (asZ g nm n))
def hookZ (n : Nat) (nm : List Str) (ex : List Fx) (fn : List Df) : PySem.W.Hook :=
  { α := AlY, obs := fun s => obsZG n nm ex fn s.heap.get?, val := fun _ => dueY fn, says := fun _ h => ∃ K : PySem.W.Frag, K.In h ∧ SaysY ex fn K,
    of := fun _ _ e => ⟨_, He.frG_in, e⟩,
    keeps := fun _ _ _ w k => w.elim fun K z => ⟨K, PySem.W.Frag.In.keeps z.1 k, z.2⟩ }
theorem obsZG_eq {n : Nat} {nm : List Str} {ex : List Fx} {fn : List Df} {g : Addr → Option Obj} {s : Shared} (h : ∀ a, g a = s.heap.get? a) : obsZG n nm ex fn g = (hookZ n nm ex fn).obs s :=
  congrArg (obsZG n nm ex fn) (funext h)
end DL

/-! EP: comprehensions over pairs; isinstance of several types (own work). -/
namespace DL
open PySem L2 PySem.W
section
variable {K : PySem.W.Frag} {B F F0 : Hp} {ro : Ro} {ka k1 : Cells} {ta : List (V × W)} {sg : L2.St} {H : Hp} {te : TE} {tt : TT} {d1 d2 : D} {j l : Nat}
end
section
variable {K : PySem.W.Frag} {ro : Ro} {ka k1 k2 : Cells} {te tf : TE} {w : W}
/-- the type of what w stands for, wherever it is asked -/
def TwX (K : PySem.W.Frag) (ka : Cells) (w : W) (t : Value) : Prop := ∀ B F0 ro ta sg H v, En K B F0 ro ka ta sg H → (v, w) ∈ ta → TyX K H v t
theorem Tw.x {t : Value} (l : Tw K ka w t) : TwX K ka w t := fun _ _ _ _ _ _ _ e h => l.at e h
end
end DL
namespace DL
open PySem L2 PySem.W
theorem evn_filt_to {K : PySem.W.Frag} {ro : Ro} {ka k1 : Cells} {te : TE} {ds es : List D} (h : EvN K te ro ka (.lst ds) k1) (e : ds = es) : EvN K te ro ka (.lst es) k1 := e ▸ h
end DL
namespace DL
open PySem L2 PySem.W
section
variable {K : PySem.W.Frag} {ro : Ro} {ka k1 k2 : Cells} {te : TE} {tr : TA} {w : W} {C C1 : Addr} {fs : List (Str × D)} {b : Bool} {E : XK} {Cc : Ct} {ws : List W}
end
end DL

/-! EQ: for over a list of which a word tells (own work). -/
namespace DL
open PySem L2 PySem.W
section
variable {K : PySem.W.Frag} {B F F0 : Hp} {ro : Ro} {ka k1 k2 k3 kr : Cells} {ta : List (V × W)} {sg : L2.St} {H H' : Hp} {te tf tg : TE} {w x y z : W} {n : Nd} {P P2 : W → Cells → Prop} {De : Ends} {u : TS} {r : R2}
end
end DL

/-! ES: what the courses' laws want (own work). -/
namespace DL
open PySem L2 PySem.W
/-! an object made where the wish of an exception may speak of the slots -/
section
variable {X : Cx} {CX : CXT} {k : Nat} {C f : Addr} {fd : FuncData} {ps : List Str} {sp : Sp} {dvs : List V} {ds : List Value}
end
section
variable {K : PySem.W.Frag} {B F0 : Hp} {ro : Ro} {ka k1 k2 k3 : Cells} {ta : List (V × W)} {te tf tg : TE} {tt : TT} {De : Ends} {t u : TS} {w x y : W}
/-- a, b = x, y -/
theorem g_par {i j : Nat} {tr : TA} (h : EvA K tr ro ka [x, y] k1) (k : Gp K B F0 ta De.nx ((ro.set i (some x)).set j (some y)) k1) : Gp K B F0 ta (tPar i j tr De) ro ka := fun sg H e => h B F0 ta sg H _ e fun vs H1 hl e1 => by
  match vs, hl, e1 with
  | [v, v2], _, e1 =>
    obtain ⟨F, g, e1⟩ := e1
    have m1 := e1.tm _ List.mem_cons_self
    have m2 := e1.tm _ (List.mem_cons_of_mem _ List.mem_cons_self)
    exact ⟨v, v2, rfl, k _ _ ⟨F, g, ((e1.set m1 i).set m2 j).held fun p hp => List.mem_cons_of_mem _ (List.mem_cons_of_mem _ hp)⟩⟩
/-- minus of an own object, told by a word -/
theorem evr_unO {Cc : Ct} {out : Oc} {E : XK} {C : Addr} {fs : List (Str × D)} {b : Bool} (kr : Cells) (h : EvD K te ro ka w (k1 ++ kr)) (l : Io (k1 ++ kr) w C fs b) (hC : Cc [w] k1 out) (ho : ∀ o k, out o k → ∃ d, o = .ret d) : EvR K (tUn (rOwn1 C (spC K Cc) E) te) ro ka (fun w' k => ∃ d k3, out (.ret d) k3 ∧ w' = .val d ∧ k = k3 ++ kr) := fun B F0 ta sg H Q e q => h B F0 ta sg H _ e fun u H1 e1 => by
  obtain ⟨a, dx, xs, rfl, ha⟩ := l.en e1 List.mem_cons_self
  exact ⟨a, dx, xs, rfl, ha, sp_rel (vs := [.ref a]) (ws := [w]) (ta := ta) e1 rfl hC ho fun d k3 v3 H' o e3 => q _ _ v3 H' ⟨d, k3, o, rfl, rfl⟩ e3⟩
/-- a slice of a list told by a word -/
theorem evr_slL {tl th : TO} {P P2 : W → Cells → Prop} (h : EvR K te ro ka P) (hP : ∀ w k, P w k → ∃ (ds : List D) (lo hi : Option Int) (k2 k3 : Cells), w = .val (.lst ds) ∧ EvO K tl ro k lo k2 ∧ EvO K th ro k2 hi k3 ∧ P2 (.val (.lst (cutD ds lo hi))) k3) : EvR K (tSl (rSlU K) te tl th) ro ka P2 := fun B F0 ta sg H Q e q =>
  h B F0 ta sg H _ e fun w k u H1 p e1 => by
    obtain ⟨ds, lo, hi, k2, k3, rfl, h1, h2, p2⟩ := hP w k p
    refine h1 B F0 _ sg H1 _ e1 fun H2 e2 => h2 B F0 _ sg H2 _ e2 fun H3 e3 => ?_
    obtain ⟨F, g, e3⟩ := e3
    obtain ⟨a, xs, rfl, s1, s2⟩ := Lk.vl.get e3 (e3.tm _ List.mem_cons_self)
    refine .inl ⟨a, xs, rfl, .inl s1, fun p hp => q _ _ _ _ p2 (En.freeze_l ?_)⟩
    exact ⟨F, g, (e3.cell (o := .lst (cutV xs lo hi)) hp (n := .lst (cutD ds lo hi)) ⟨_, upd_same, rpl_cut s2 lo hi⟩).held fun p hp => List.mem_cons_of_mem _ hp⟩
/-- an if by a test told by a word, whose ends meet -/
theorem q_whenRI {R : Bool → Cells → Prop} (Inv : Ro → Cells → Prop) (h : EvTR K tt ro ka R) (h1 : ∀ k, R true k → ∀ nx, (∀ ro2 ka2, Inv ro2 ka2 → Gp K B F0 ta nx ro2 ka2) → Gp K B F0 ta (t { De with nx := nx }) ro k) (h2 : ∀ k, R false k → Inv ro k) (k : ∀ ro2 ka2, Inv ro2 ka2 → Gp K B F0 ta (u De) ro2 ka2) : Gp K B F0 ta (tSeq (tIfS tt t tNext) u De) ro ka := q_whenR h (fun k' r => h1 k' r _ k) fun k' r => k _ _ (h2 k' r)
/-- arguments told by a word -/
def EvAR (K : PySem.W.Frag) (tr : TA) (ro : Ro) (ka : Cells) (R : List W → Cells → Prop) : Prop := ∀ B F0 ta sg H (Q : List V → Hp → Prop), En K B F0 ro ka ta sg H → (∀ ws k vs H', R ws k → vs.length = ws.length → En K B F0 ro k (vs.zip ws ++ ta) sg H' → Q vs H') → tr sg H Q
theorem EvA.toR {tr : TA} {ws : List W} (h : EvA K tr ro ka ws k1) : EvAR K tr ro ka (fun ws' k => ws' = ws ∧ k = k1) := fun B F0 ta sg H Q e q => h B F0 ta sg H _ e fun vs H' hl e' => q ws k1 vs H' ⟨rfl, rfl⟩ hl e'
theorem EvAR.imp {tr : TA} {R R2 : List W → Cells → Prop} (h : EvAR K tr ro ka R) (i : ∀ ws k, R ws k → R2 ws k) : EvAR K tr ro ka R2 := fun B F0 ta sg H Q e q => h B F0 ta sg H Q e fun ws k vs H' r => q ws k vs H' (i ws k r)
/-- what raises lets the def end so -/
theorem g_dropP {out : Oc} {E : XK} {C1 : Addr} {gs : List (Str × D)} (hX : RxOk K B F0 out E) (h : EvX K te ro ka E C1 gs k2) (o : out (.exc C1 gs) k2) : Gp K B F0 ta (tDrop te De) ro ka := fun sg H e => h B F0 ta sg H _ e fun dx H' e' => hX.1 C1 gs k2 dx H' o e'.leaveX
theorem q_dropP {out : Oc} {E : XK} {C1 : Addr} {gs : List (Str × D)} (hX : RxOk K B F0 out E) (h : EvX K te ro ka E C1 gs k2) (o : out (.exc C1 gs) k2) : Gp K B F0 ta (tSeq (tDrop te) u De) ro ka := g_dropP (De := { De with nx := u De }) hX h o
theorem g_asgP {g : TG} {out : Oc} {E : XK} {C1 : Addr} {gs : List (Str × D)} (hX : RxOk K B F0 out E) (h : EvX K te ro ka E C1 gs k2) (o : out (.exc C1 gs) k2) : Gp K B F0 ta (tAsg te g De) ro ka := fun sg H e => h B F0 ta sg H _ e fun dx H' e' => hX.1 C1 gs k2 dx H' o e'.leaveX
theorem q_asgP {g : TG} {out : Oc} {E : XK} {C1 : Addr} {gs : List (Str × D)} (hX : RxOk K B F0 out E) (h : EvX K te ro ka E C1 gs k2) (o : out (.exc C1 gs) k2) : Gp K B F0 ta (tSeq (tAsg te g) u De) ro ka := g_asgP (De := { De with nx := u De }) hX h o
/-- a target of several names, the value told by a word -/
theorem g_asgRT {g : TG} {P : W → Cells → Prop} (h : EvR K te ro ka P) (k : ∀ w k1, P w k1 → ∃ ro', AsT K g w ro ro' ∧ Gp K B F0 ta De.nx ro' k1) : Gp K B F0 ta (tAsg te g De) ro ka := fun sg H e => h B F0 ta sg H _ e fun w k1 v H1 p e1 =>
  let ⟨ro', a, kk⟩ := k w k1 p
  a B F0 k1 _ sg H1 v _ e1 List.mem_cons_self fun sg' e' => kk _ _ e'.pop
theorem q_asgRT {g : TG} {P : W → Cells → Prop} (h : EvR K te ro ka P) (k : ∀ w k1, P w k1 → ∃ ro', AsT K g w ro ro' ∧ Gp K B F0 ta (u De) ro' k1) : Gp K B F0 ta (tSeq (tAsg te g) u De) ro ka := g_asgRT (De := { De with nx := u De }) h k
theorem EvR.rp {P P2 : W → Cells → Prop} (h : EvR K te ro ka P) (hP : ∀ w k, P w k → ∃ k', P2 w k' ∧ k'.Perm k) : EvR K te ro ka P2 := fun B F0 ta sg H Q e q => h B F0 ta sg H Q e fun w k v H' p e' =>
  let ⟨k', p2, s⟩ := hP w k p
  q w k' v H' p2 (e'.perm s)
end
section
variable {P : Program} {w : World} {K : PySem.W.Frag} {mg : Str → Option Value} {base : Heap} {k : Nat} {x qual : Str} {N ps : List Str} {params : Arguments} {body : List Stmt} {scope : Scope} {f : Addr} {fd : FuncData} {C : Ct}
/-- a contract that nothing meets (a def that calls itself, at depth 0) -/
theorem fn_vac (F : FunD K x qual params body scope [] [] f fd) (S : FnScope N ps scope)
    (hb : ∀ (kV doc pm : Value) (an : Option Addr) (cdv ct : Value) (us : List Value), us.length = ps.length → bindArgs (PySem.W.fnOf x qual params body scope .none kV doc pm an cdv ct) ⟨us, []⟩ = pure (ps.zip us))
    (h : ∀ ws ka out, ¬ C ws ka out) : Fn P w K mg base (k + 1) f ps C :=
  ⟨fd, F.ok S (fun _ _ _ _ z => by obtain ⟨_, _, _, _, _, c, _⟩ := z; exact absurd c (h _ _ _)) (fun _ _ _ _ _ _ _ _ _ z => by obtain ⟨_, _, _, _, _, c, _⟩ := z; exact absurd c (h _ _ _)), F.bindsN hb⟩
end
section
variable {K : PySem.W.Frag} {B F0 : Hp} {ro : Ro} {ka k1 k2 k3 : Cells} {te tf : TE} {w : W}
end
def Ct6 (R : W → W → W → W → W → W → Cells → Oc → Prop) : Ct := fun ws ka out => ∃ a b c d e f, ws = [a, b, c, d, e, f] ∧ R a b c d e f ka out
theorem ct6_len {R} : ∀ ws ka out, Ct6 R ws ka out → ws.length = 6 := fun _ _ _ ⟨_, _, _, _, _, _, h, _⟩ => by rw [h]; rfl
end DL

/-! EX: two own objects of one class and an operator (own work). -/
namespace DL
open PySem L2 PySem.W
/-! ### x op y, both of one class of the text -/
section
variable {X : Cx} {CX : CXT} {k : Nat} {C f : Addr} {fd : FuncData} {ps : List Str} {sp : Sp} {E : XK} {Cc : Ct}
/-- x op= y -/
structure Io2 (K : PySem.W.Frag) (C : Addr) (op : Operator) (f : Addr) : Prop where
  first : selfFirst K C = true
  sm : Sm K C (dunderI op.info.2) f
end
/-! ### the same where what is raised may speak of the slots -/
section
variable {X : Cx} {k : Nat} {C f : Addr} {ps : List Str} {E : L2.St → XK} {Cc : Ct} {l r : Expr} {pos : Pos} {tl tr : TE}
end
/-! ### data -/
section
variable {K : PySem.W.Frag} {B F0 : Hp} {ro : Ro} {ka k1 k2 k3 kr : Cells} {ta : List (V × W)} {td te tf ty tx : TE} {De : Ends} {t u : TS} {w x y : W} {b b2 : Bool} {C : Addr} {fs gs : List (Str × D)} {d : D}
end
section
variable {K : PySem.W.Frag} {B F0 : Hp} {ro : Ro} {ka k1 k2 k3 kr : Cells} {ta : List (V × W)} {td te tf ty tx : TE} {De De' : Ends} {t u : TS} {w x y : W} {b b2 : Bool} {C C1 : Addr} {fs gs hs : List (Str × D)} {d : D}
end
end DL

/-! EY: patterns as trees, their words, the machine of atoms (own work). -/
namespace DL
open PySem L2 PySem.W
/-- a pattern: an atom (one of some names, or none of them), two behind one another, either, any number, one or none -/
inductive Tr where
  | at (any : Bool) (ns : List Str) | join (a b : Tr) | either (a b : Tr) | rep (a : Tr) | opt (a : Tr)
def kdS : Bool → Str
  | true => "any"
  | false => "none"
/-- as the program holds it (names a tuple), as the law holds it (names a list) -/
def Tr.d (law : Bool) : Tr → D
  | .at k ns => .tup [.str (kdS k), if law then .lst (stD ns) else .tup (stD ns)]
  | .join a b => .tup [.str "join", a.d law, b.d law]
  | .either a b => .tup [.str "either", a.d law, b.d law]
  | .rep a => .tup [.str "repeat", a.d law]
  | .opt a => .tup [.str "option", a.d law]
/-- nested operators -/
def Tr.dep : Tr → Nat
  | .at _ _ => 0
  | .join a b => max a.dep b.dep + 1
  | .either a b => max a.dep b.dep + 1
  | .rep a => a.dep + 1
  | .opt a => a.dep + 1
/-- an atom takes a name -/
def atB (p : Bool × List Str) (x : Str) : Bool := decide (x ∈ p.2) == p.1
/-- any number of words one behind another -/
inductive Str_ (P : List Str → Prop) : List Str → Prop where
  | nil : Str_ P []
  | snoc {u z : List Str} (h : Str_ P u) (hz : P z) : Str_ P (u ++ z)
/-- the machine: atoms, first and last ones, pairs, has it the empty word -/
structure Mc where
  at_ : List (Bool × List Str)
  fi : List Nat
  la : List Nat
  pr : List (Nat × Nat)
  op : Bool
def crN (xs ys : List Nat) : List (Nat × Nat) := xs.flatMap fun x => ys.map fun y => (x, y)
def mcT : Tr → Nat → Mc
  | .at k ns, s => ⟨[(k, ns)], [s], [s], [], false⟩
  | .rep a, s => let m := mcT a s; ⟨m.at_, m.fi, m.la, m.pr ++ crN m.la m.fi, true⟩
  | .opt a, s => let m := mcT a s; ⟨m.at_, m.fi, m.la, m.pr, true⟩
  | .either a b, s => let m := mcT a s; let n := mcT b (s + m.at_.length); ⟨m.at_ ++ n.at_, m.fi ++ n.fi, m.la ++ n.la, m.pr ++ n.pr, m.op || n.op⟩
  | .join a b, s => let m := mcT a s; let n := mcT b (s + m.at_.length)
    ⟨m.at_ ++ n.at_, if m.op then m.fi ++ n.fi else m.fi, if n.op then m.la ++ n.la else n.la, m.pr ++ n.pr ++ crN m.la n.fi, m.op && n.op⟩
/-- a way through the machine that reads w and ends at an atom -/
inductive Pth (T : Nat → Str → Bool) (fi : List Nat) (pr : List (Nat × Nat)) : List Str → Nat → Prop where
  | one {a : Nat} {x : Str} (h : a ∈ fi) (t : T a x = true) : Pth T fi pr [x] a
  | more {w : List Str} {a b : Nat} {x : Str} (h : Pth T fi pr w a) (hp : (a, b) ∈ pr) (t : T b x = true) : Pth T fi pr (w ++ [x]) b
theorem Pth.ne {T : Nat → Str → Bool} {fi : List Nat} {pr : List (Nat × Nat)} {w : List Str} {a : Nat} (h : Pth T fi pr w a) : w ≠ [] := by
  cases h <;> simp
/-- atoms within lo ≤ .. < hi -/
structure McR (m : Mc) (lo hi : Nat) : Prop where
  fi : ∀ a ∈ m.fi, lo ≤ a ∧ a < hi
  la : ∀ a ∈ m.la, lo ≤ a ∧ a < hi
  pr : ∀ p ∈ m.pr, (lo ≤ p.1 ∧ p.1 < hi) ∧ lo ≤ p.2 ∧ p.2 < hi
section
variable {T : Nat → Str → Bool} {fi fi2 fi' : List Nat} {pr pr2 pr' : List (Nat × Nat)} {w u v : List Str} {a c : Nat}
theorem Pth.mono (h : Pth T fi pr w c) (h1 : ∀ a ∈ fi, a ∈ fi') (h2 : ∀ p ∈ pr, p ∈ pr') : Pth T fi' pr' w c := by
  induction h with
  | one h t => exact .one (h1 _ h) t
  | more h hp t ih => exact .more ih (h2 _ hp) t
end
/-! ### the machine run -/
def tkM (m : Mc) (a : Nat) (x : Str) : Bool := match m.at_[a]? with
  | some p => atB p x
  | none => false
def behM (m : Mc) (ps : List Nat) (a : Nat) : Bool := ps.any fun p => decide ((p, a) ∈ m.pr)
def afterM (m : Mc) (ps : List Nat) (x : Str) : List Nat := (List.range m.at_.length).filter fun a => tkM m a x && behM m ps a
def doneM (m : Mc) (ps : List Nat) : Bool := ps.any fun p => decide (p ∈ m.la)
end DL

/-! EZ: pairs of numbers as keys (own work). -/
namespace DL
open PySem L2 PySem.W
/-! ### data: keys are pairs of numbers -/
def isII : List Value → Bool
  | [.int _ _, .int _ _] => true
  | _ => false
/-- no tuple of the text is a pair of numbers -/
def NoP (K : PySem.W.Frag) : Prop := ∀ (a : Addr) (o : Obj) (its : Array Value) (n : Nat), K.lookup a = some o → o.cls = .type "tuple" → o.data = .seq its n → isII its.toList = false
def noP1 : Obj → Bool
  | ⟨.type T, _, .seq its _, _⟩ => !(decide (T = "tuple") && isII its.toList)
  | _ => true
def fNoP : Fx := fun K => K.all fun p => noP1 p.2
theorem noP_ok {K : PySem.W.Frag} (h : fNoP K = true) : NoP K := fun a o its n hl hc hd => by
  have hm : ∀ {K : PySem.W.Frag}, K.lookup a = some o → (a, o) ∈ K := fun {K} => by
    induction K with
    | nil => intro h; cases h
    | cons p r ih =>
      obtain ⟨b, x⟩ := p
      intro h
      rw [List.lookup_cons] at h
      split at h
      · rename_i q
        cases h
        rw [beq_iff_eq.mp q]
        exact List.mem_cons_self
      · exact List.mem_cons_of_mem _ (ih h)
  have := List.all_eq_true.mp h _ (hm hl)
  obtain ⟨cls, dict, data, sl⟩ := o
  cases hc
  cases hd
  have t : (!(decide (("tuple" : String) = "tuple") && isII its.toList)) = true := this
  cases e : isII its.toList with
  | false => rfl
  | true => rw [e] at t; cases t
section
variable {K : PySem.W.Frag} {B F F0 : Hp} {ro : Ro} {ka k1 k2 k3 kr : Cells} {ta : List (V × W)} {sg : L2.St} {H H' : Hp} {te tf tg td ty tk tv : TE} {tt : TT} {w : W} {a : Addr} {b : Bool}
theorem sq_pair {i j : Int} (np : NoP K) (h : SqT K F a [.int i, .int j]) : Rd F a (.tup [.int i, .int j]) := by
  rcases h with h | ⟨o, its, n, h1, h2, h3, _, h4⟩
  · exact h
  · exfalso
    have z := np a o its n h1 h2 h3
    generalize its.toList = l at z h4
    cases h4 with
    | cons r1 t =>
      cases t with
      | cons r2 t2 =>
        cases t2
        obtain ⟨_, rfl⟩ := r1
        obtain ⟨_, rfl⟩ := r2
        cases z
theorem rd_tup {xs : List V} (n : Nz F) (e : Exz F H) (h : Rd F a (.tup xs)) : H a = some (.tup xs) := by
  rcases h with h | ⟨o, h⟩
  · exact e.at h rfl
  · have := n a _ h
    cases this
/-- a pair of numbers as a key -/
def prK (p : Nat × Nat) : List Key := [.inl (p.1 : Int), .inl (p.2 : Int)]
def prD (p : Nat × Nat) : D := .tup [.int (p.1 : Int), .int (p.2 : Int)]
theorem pr_at {p : Nat × Nat} {v : V} (np : NoP K) (e : EnF K B F ro ka ta sg H) (h : WOk K B F v (.val (prD p))) : ∃ a, v = .ref a ∧ H a = some (.tup ((prK p).map kV)) := by
  obtain ⟨a, xs, rfl, h1, x, ys, rfl, hx, y, zs, rfl, hy, hz⟩ := h
  cases hx
  cases hy
  cases hz
  exact ⟨a, rfl, rd_tup e.nz e.fz (sq_pair np h1)⟩
/-- (i, j) in d -/
theorem ev_dinP {p : Nat × Nat} {ds : List (List Key × D)} (np : NoP K) (h : EvD K ty ro ka (.val (prD p)) k1) (h2 : EvD K td ro k1 (.val (.dit ds)) k2) : EvD K (tDIn ty td) ro ka (.val (.bl (getT ds (prK p)).isSome)) k2 := fun B F0 ta sg H Q e q =>
  h B F0 ta sg H _ e fun u H1 e1 => h2 B F0 _ sg H1 _ e1 fun v H2 e2 => by
    obtain ⟨F, g, ef⟩ := id e2
    obtain ⟨c, rfl, hc⟩ := pr_at np ef (ef.tm (u, .val (prD p)) (List.mem_cons_of_mem _ List.mem_cons_self))
    obtain ⟨a, xs, rfl, h3, h4⟩ := ef.tm (v, .val (.dit ds)) List.mem_cons_self
    have hg := (rpt_pt.mp h4).get (prK p)
    refine ⟨a, getT xs (prK p), rfl, .inr ⟨xs, prK p, c, ef.fz.rd ef.nz h3, rfl, hc, rfl⟩, q _ _ ?_⟩
    have e5 := (e2.held (ta' := ta) fun p hp => List.mem_cons_of_mem _ (List.mem_cons_of_mem _ hp)).push_imm (v := .bl (getT xs (prK p)).isSome) (w := .val (.bl (getT xs (prK p)).isSome)) fun _ => rfl
    cases hd : getT ds (prK p) with
    | none => rw [hg.1 hd] at e5 ⊢; exact e5
    | some d =>
      obtain ⟨x, hx, _⟩ := hg.2 d hd
      rw [hx] at e5 ⊢
      exact e5
end
end DL

/-! FA: a list comprehension with two fors, by data, for the library's reading tLc2 (own work). -/
namespace DL
open PySem L2 PySem.W
section
variable {K : PySem.W.Frag} {B F F0 : Hp} {ro : Ro} {ka k1 k2 k3 kr : Cells} {ta : List (V × W)} {sg : L2.St} {H H' : Hp} {te : TE}
/-- [d x y for x in .. for y in ..] -/
theorem evn_lc2 {α β : Type} {wi wi2 : TI} {xs : List α} {ys : List β} {f : α → W} {f2 : β → W} {d : α → β → D} {j j2 : Nat} {vs : List Nat} (h : EvI K wi ro ka (xs.map f) (fun _ => True) k1) (hj : j ∈ vs) (few : xs.length * ys.length < 100000)
    (h2 : ∀ x k, EvI K wi2 ((wipeR ro vs).set j (some (f x))) k (ys.map f2) (fun _ => True) k) (he : ∀ x y k, EvD K te (((wipeR ro vs).set j (some (f x))).set j2 (some (f2 y))) k (.val (d x y)) k) :
    EvN K (tLc2 wi (gName j) tYes wi2 (gName j2) tYes te vs [j2]) ro ka (.lst (xs.flatMap fun x => ys.map (d x))) k1 := fun B F0 ta sg H Q e q =>
  h B F0 ta sg H _ e fun J ta' H1 hta e1 hgo hst => fun Dl hD => by
    let acc : Nat → List D := fun i => (xs.take i).flatMap fun x => ys.map (d x)
    have alen : ∀ i, (acc i).length = (xs.take i).length * ys.length := fun i => by
      show ((xs.take i).flatMap fun x => ys.map (d x)).length = _
      generalize xs.take i = zs
      induction zs with
      | nil => simp
      | cons z zs ih =>
        rw [List.flatMap_cons, List.length_append, ih, List.length_map, List.length_cons, Nat.succ_mul]
        omega
    let P : Nat → Hp → Prop := fun i H => En K B F0 ro (k1 ++ [(Dl, .lst (acc i))]) ta' sg H
    have p0 : P 0 (upd H1 Dl (.lst [])) := by
      obtain ⟨F, g, e1⟩ := e1
      exact ⟨F, g, e1.cell (o := .lst []) hD (n := .lst []) ⟨[], upd_same, rfl⟩⟩
    have wl : (xs.map f).length = xs.length := List.length_map _
    have yl : (ys.map f2).length = ys.length := List.length_map _
    refine ⟨fun i m H => m = xs.length - i ∧ i ≤ xs.length ∧ P i H, ⟨xs.length, by simp, Nat.zero_le _, p0⟩, ?_⟩
    rintro i m H2 ⟨rfl, hi, e2⟩
    by_cases hlt : i < xs.length
    · have hx := List.getElem?_eq_getElem hlt
      generalize xs[i] = x at hx
      have hw : (xs.map f)[i]? = some (f x) := by rw [List.getElem?_map, hx]; rfl
      obtain ⟨g1, g2⟩ := hgo i _ ro (k1 ++ [(Dl, .lst (acc i))]) ta' sg H2 hw trivial (fun p hp => hp) e2
      refine .inr ⟨g1, P (i + 1), fun H' z => ⟨xs.length - (i + 1), by omega, rfl, hlt, z⟩, fun xv H3 y => ?_⟩
      have e3 := g2 xv H3 y
      refine ⟨wipe_set sg vs hj xv, ?_⟩
      obtain ⟨F3, gF3, eF3⟩ := e3
      have ln0 : sg.length = ro.length := by obtain ⟨_, _, e0⟩ := e; exact e0.ln
      have slots : ∀ {F : Hp}, Gr B F3 F → ∀ (a : Nat) w, ro[a]? = some (some w) → ∃ v, sg[a]? = some (some v) ∧ WOk K B F v w := fun {F} g a w ha => by
        obtain ⟨v, h1, h2⟩ := eF3.sl a w ha
        exact ⟨v, h1, wok_gr eF3.nz g h2⟩
      have e4 : En K B F3 ((wipeR ro vs).set j (some (f x))) (k1 ++ [(Dl, .lst (acc i))]) ta' ((wipe sg vs).set j (some xv)) H3 :=
        ⟨F3, Gr.refl _ _, ((wipe_en (vs := vs) eF3).set (eF3.tm _ List.mem_cons_self) j).held fun p hp => List.mem_cons_of_mem _ hp⟩
      show wi2 _ _ _
      refine h2 x _ B F3 ta' _ H3 _ e4 fun J2 ta2 H4 hta2 e5 hgo2 hst2 => ?_
      let P2 : Nat → Hp → Prop := fun n H => En K B F3 ((wipeR ro vs).set j (some (f x))) (k1 ++ [(Dl, .lst (acc i ++ (ys.take n).map (d x)))]) ta2 ((wipe sg vs).set j (some xv)) H
      have q0 : P2 0 H4 := by
        show En _ _ _ _ (k1 ++ [(Dl, .lst (acc i ++ []))]) _ _ _
        rw [List.append_nil]
        exact e5
      refine ⟨fun n m H => m = ys.length - n ∧ n ≤ ys.length ∧ P2 n H, ⟨ys.length, by simp, Nat.zero_le _, q0⟩, ?_⟩
      rintro n m2 H5 ⟨rfl, hn, e6⟩
      by_cases hlt2 : n < ys.length
      · have hy := List.getElem?_eq_getElem hlt2
        generalize ys[n] = y at hy
        have hw2 : (ys.map f2)[n]? = some (f2 y) := by rw [List.getElem?_map, hy]; rfl
        obtain ⟨g3, g4⟩ := hgo2 n _ _ _ ta2 _ H5 hw2 trivial (fun p hp => hp) e6
        refine .inr ⟨g3, P2 (n + 1), fun H' z => ⟨ys.length - (n + 1), by omega, rfl, hlt2, z⟩, fun yv H6 yy => ?_⟩
        obtain ⟨F4, gF4, eF4⟩ := g4 yv H6 yy
        refine ⟨wipe_set _ [j2] List.mem_cons_self yv, ?_⟩
        have e7 : En K B F4 (((wipeR ro vs).set j (some (f x))).set j2 (some (f2 y))) (k1 ++ [(Dl, .lst (acc i ++ (ys.take n).map (d x)))]) ta2 ((wipe ((wipe sg vs).set j (some xv)) [j2]).set j2 (some yv)) H6 := by
          have z : En K B F4 ((wipeR ((wipeR ro vs).set j (some (f x))) [j2]).set j2 (some (f2 y))) (k1 ++ [(Dl, .lst (acc i ++ (ys.take n).map (d x)))]) ta2 ((wipe ((wipe sg vs).set j (some xv)) [j2]).set j2 (some yv)) H6 :=
            ⟨F4, Gr.refl _ _, ((wipe_en (vs := [j2]) eF4).set (eF4.tm _ List.mem_cons_self) j2).held fun p hp => List.mem_cons_of_mem _ hp⟩
          have q : (wipeR ((wipeR ro vs).set j (some (f x))) [j2]).set j2 (some (f2 y)) = ((wipeR ro vs).set j (some (f x))).set j2 (some (f2 y)) := List.set_set ..
          exact q ▸ z
        show te _ _ _
        refine he x y _ B F4 ta2 _ H6 _ e7 fun z H7 ⟨F5, g5, e8⟩ => ?_
        have hc : (k1 ++ [(Dl, Nd.lst (acc i ++ (ys.take n).map (d x)))])[k1.length]? = some (Dl, Nd.lst (acc i ++ (ys.take n).map (d x))) := by simp
        obtain ⟨zs, h3, h4⟩ := (e8.ce _ (List.mem_of_getElem? hc)).2.2
        have hz := e8.tm (z, .val (d x y)) List.mem_cons_self
        have e9 := e8.write (o := .lst (zs ++ [z])) (n' := .lst (acc i ++ (ys.take n).map (d x) ++ [d x y])) hc ⟨_, upd_same, rpl_app h4 ⟨z, [], rfl, hz, rfl⟩⟩
        rw [List.set_append_right _ _ (Nat.le_refl _), Nat.sub_self] at e9
        have grow : acc i ++ (ys.take (n + 1)).map (d x) = acc i ++ (ys.take n).map (d x) ++ [d x y] := by
          rw [take_succ_some hy, List.map_append, List.append_assoc]
          rfl
        refine ⟨zs, h3, ?_, ?_⟩
        · have l1 := rpl_len h4
          have l2 := alen i
          rw [List.length_append, List.length_map, List.length_take] at l1
          rw [List.length_take] at l2
          have l3 : i * ys.length + ys.length ≤ xs.length * ys.length := by
            rw [← Nat.succ_mul]
            exact Nat.mul_le_mul_right _ hlt
          have l4 : min i xs.length = i := Nat.min_eq_left hi
          rw [l4] at l2
          have big : 100000 ≤ sizeLine := by decide
          omega
        · show En _ _ _ _ (k1 ++ [(Dl, .lst (acc i ++ (ys.take (n + 1)).map (d x)))]) _ _ _
          rw [grow]
          exact ⟨F5, gF4.trans g5, (e9.held (ta' := ta2) fun p hp => List.mem_cons_of_mem _ hp).frame (by obtain ⟨_, _, e0⟩ := e4; exact e0.ln) fun a w ha => by
            obtain ⟨v, h5, h6⟩ := eF4.sl a w ha
            exact ⟨v, h5, wok_gr eF4.nz g5 h6⟩⟩
      · have en : n = ys.length := by omega
        subst en
        refine .inl ⟨hst2 _ _ _ ta2 _ H5 (by rw [yl]; exact Nat.le_refl _) trivial (fun p hp => hp) e6, ?_⟩
        have grow : acc (i + 1) = acc i ++ (ys.take ys.length).map (d x) := by
          show (xs.take (i + 1)).flatMap _ = _
          rw [take_succ_some hx, List.flatMap_append, List.take_length]
          simp
          rfl
        show En _ _ _ _ (k1 ++ [(Dl, .lst (acc (i + 1)))]) _ _ _
        rw [grow]
        obtain ⟨F6, g6, e10⟩ := e6
        exact ⟨F6, gF3.trans g6, (e10.held (ta' := ta') hta2).frame ln0 (slots g6)⟩
    · have ei : i = xs.length := by omega
      subst ei
      have all : acc xs.length = xs.flatMap fun x => ys.map (d x) := by
        show (xs.take xs.length).flatMap _ = _
        rw [List.take_length]
      have e2' : En K B F0 ro (k1 ++ [(Dl, .lst (acc xs.length))]) ta' sg H2 := e2
      rw [all] at e2'
      exact .inl ⟨hst _ ro _ ta' sg H2 (by rw [wl]; exact Nat.le_refl _) trivial (fun p hp => hp) e2, q Dl H2 (e2'.held hta)⟩
end
end DL

/-! FB: machines as data (own work). -/
namespace DL
open PySem L2 PySem.W
def nmD (xs : List Nat) : List D := xs.map fun n : Nat => D.int (n : Int)
def atD (p : Bool × List Str) : D := .tup [.bl p.1, .tup (stD p.2)]
/-- what reading a tree tells -/
def rdT (m : Mc) : D := .tup [.lst (m.at_.map atD), .lst (nmD m.fi), .lst (nmD m.la), .lst (m.pr.map prD), .bl m.op]
def prsD (ps : List (Nat × Nat)) : List (List Key × D) := ps.foldl (fun acc p => putT acc (prK p) (D.bl true)) []
structure Fits (m : Mc) : Prop where
  a : m.at_.length ≤ 300
  f : m.fi.length ≤ 300
  l : m.la.length ≤ 300
  p : m.pr.length ≤ 90000
/-- a pattern small enough for its machine, and so are its parts -/
def Tr.sm : Tr → Prop
  | .at k ns => ns.length ≤ 1000
  | .join a b => a.sm ∧ b.sm ∧ ∀ s, Fits (mcT (.join a b) s)
  | .either a b => a.sm ∧ b.sm ∧ ∀ s, Fits (mcT (.either a b) s)
  | .rep a => a.sm ∧ ∀ s, Fits (mcT (.rep a) s)
  | .opt a => a.sm ∧ ∀ s, Fits (mcT (.opt a) s)
theorem Tr.sm.fits {t : Tr} (h : t.sm) (s : Nat) : Fits (mcT t s) := by
  cases t with
  | «at» k ns => exact ⟨by show 1 ≤ 300; decide, by show 1 ≤ 300; decide, by show 1 ≤ 300; decide, by show 0 ≤ 90000; decide⟩
  | join a b => exact h.2.2 s
  | either a b => exact h.2.2 s
  | rep a => exact h.2 s
  | opt a => exact h.2 s
/-! sizes -/
def Tr.ats : Tr → Nat
  | .at _ _ => 1
  | .join a b => a.ats + b.ats
  | .either a b => a.ats + b.ats
  | .rep a => a.ats
  | .opt a => a.ats
def Tr.ops : Tr → Nat
  | .at _ _ => 0
  | .join a b => a.ops + b.ops + 1
  | .either a b => a.ops + b.ops
  | .rep a => a.ops + 1
  | .opt a => a.ops
theorem crN_len (xs ys : List Nat) : (crN xs ys).length = xs.length * ys.length := by
  unfold crN
  induction xs with
  | nil => simp
  | cons x xs ih =>
    rw [List.flatMap_cons, List.length_append, ih, List.length_map, List.length_cons, Nat.succ_mul]
    omega
theorem mc_at_len : ∀ (t : Tr) (s : Nat), (mcT t s).at_.length = t.ats
  | .at _ _, _ => rfl
  | .rep a, s => mc_at_len a s
  | .opt a, s => mc_at_len a s
  | .either a b, s => by
    show (_ ++ _ : List _).length = _
    rw [List.length_append, mc_at_len a, mc_at_len b]
    rfl
  | .join a b, s => by
    show (_ ++ _ : List _).length = _
    rw [List.length_append, mc_at_len a, mc_at_len b]
    rfl
theorem mc_fl_len : ∀ (t : Tr) (s : Nat), (mcT t s).fi.length ≤ t.ats ∧ (mcT t s).la.length ≤ t.ats
  | .at _ _, _ => ⟨Nat.le_refl _, Nat.le_refl _⟩
  | .rep a, s => mc_fl_len a s
  | .opt a, s => mc_fl_len a s
  | .either a b, s => by
    have h1 := mc_fl_len a s
    have h2 := mc_fl_len b (s + (mcT a s).at_.length)
    refine ⟨?_, ?_⟩
    · show (_ ++ _ : List _).length ≤ a.ats + b.ats
      rw [List.length_append]
      omega
    · show (_ ++ _ : List _).length ≤ a.ats + b.ats
      rw [List.length_append]
      omega
  | .join a b, s => by
    have h1 := mc_fl_len a s
    have h2 := mc_fl_len b (s + (mcT a s).at_.length)
    refine ⟨?_, ?_⟩
    · show (ite _ _ _ : List Nat).length ≤ a.ats + b.ats
      split
      · rw [List.length_append]; omega
      · omega
    · show (ite _ _ _ : List Nat).length ≤ a.ats + b.ats
      split
      · rw [List.length_append]; omega
      · omega
theorem mul_le {a b c : Nat} (h1 : a ≤ c) (h2 : b ≤ c) : a * b ≤ c * c := Nat.mul_le_mul h1 h2
theorem mc_pr_len : ∀ (t : Tr) (s n : Nat), t.ats ≤ n → (mcT t s).pr.length ≤ t.ops * (n * n)
  | .at _ _, _, _, _ => Nat.zero_le _
  | .opt a, s, n, h => mc_pr_len a s n h
  | .rep a, s, n, h => by
    have h1 := mc_pr_len a s n h
    have h2 := mc_fl_len a s
    have h0 : a.ats ≤ n := h
    show (_ ++ _ : List _).length ≤ (a.ops + 1) * (n * n)
    rw [List.length_append, crN_len, Nat.succ_mul]
    have := mul_le (Nat.le_trans h2.2 h0) (Nat.le_trans h2.1 h0)
    omega
  | .either a b, s, n, h => by
    have h0 : a.ats + b.ats ≤ n := h
    have h1 := mc_pr_len a s n (by omega)
    have h2 := mc_pr_len b (s + (mcT a s).at_.length) n (by omega)
    show (_ ++ _ : List _).length ≤ (a.ops + b.ops) * (n * n)
    rw [List.length_append, Nat.add_mul]
    omega
  | .join a b, s, n, h => by
    have h0 : a.ats + b.ats ≤ n := h
    have h1 := mc_pr_len a s n (by omega)
    have h2 := mc_pr_len b (s + (mcT a s).at_.length) n (by omega)
    have h3 := mc_fl_len a s
    have h4 := mc_fl_len b (s + (mcT a s).at_.length)
    show (_ ++ _ ++ _ : List _).length ≤ (a.ops + b.ops + 1) * (n * n)
    rw [List.length_append, List.length_append, crN_len, Nat.succ_mul, Nat.add_mul]
    have := mul_le (c := n) (Nat.le_trans h3.2 (by omega)) (Nat.le_trans h4.1 (by omega))
    omega
/-- all atoms hold few names -/
def Tr.few : Tr → Prop
  | .at _ ns => ns.length ≤ 1000
  | .join a b => a.few ∧ b.few
  | .either a b => a.few ∧ b.few
  | .rep a => a.few
  | .opt a => a.few
theorem fits_of {t : Tr} {n : Nat} (h : t.ats ≤ n) (hn : n ≤ 300) (hp : t.ops * (n * n) ≤ 90000) (s : Nat) : Fits (mcT t s) :=
  ⟨by rw [mc_at_len]; omega, by have := (mc_fl_len t s).1; omega, by have := (mc_fl_len t s).2; omega, Nat.le_trans (mc_pr_len t s n h) hp⟩
theorem sm_of : ∀ {t : Tr} {n : Nat}, t.few → t.ats ≤ n → n ≤ 300 → t.ops * (n * n) ≤ 90000 → t.sm
  | .at _ _, _, f, _, _, _ => f
  | .opt a, n, f, h, hn, hp => ⟨sm_of (t := a) f h hn hp, fits_of h hn hp⟩
  | .rep a, n, f, h, hn, hp => ⟨sm_of (t := a) f h hn (Nat.le_trans (Nat.mul_le_mul_right _ (Nat.le_succ _)) hp), fits_of h hn hp⟩
  | .either a b, n, f, h, hn, hp => by
    have h0 : a.ats + b.ats ≤ n := h
    have hp0 : (a.ops + b.ops) * (n * n) ≤ 90000 := hp
    exact ⟨sm_of f.1 (by omega) hn (Nat.le_trans (Nat.mul_le_mul_right _ (by omega)) hp0), sm_of f.2 (by omega) hn (Nat.le_trans (Nat.mul_le_mul_right _ (by omega)) hp0), fits_of h hn hp⟩
  | .join a b, n, f, h, hn, hp => by
    have h0 : a.ats + b.ats ≤ n := h
    have hp0 : (a.ops + b.ops + 1) * (n * n) ≤ 90000 := hp
    exact ⟨sm_of f.1 (by omega) hn (Nat.le_trans (Nat.mul_le_mul_right _ (by omega)) hp0), sm_of f.2 (by omega) hn (Nat.le_trans (Nat.mul_le_mul_right _ (by omega)) hp0), fits_of h hn hp⟩
section
variable {K : PySem.W.Frag} {ro : Ro} {ka k1 k2 : Cells} {te tf : TE}
/-- list + list, both frozen -/
theorem ev_catL {ds es : List D} (h : EvD K te ro ka (.val (.lst ds)) k1) (h2 : EvD K tf ro k1 (.val (.lst es)) k2) (hz : ds.length + es.length ≤ 100000) : EvD K (tOp (rAddU K) te tf) ro ka (.val (.lst (ds ++ es))) k2 := (evn_op h h2 (rvn_cat (b1 := false) (b2 := false) .vl .vl hz)).lst
theorem En.freeze_t {B F0 : Hp} {ta : List (V × W)} {sg : L2.St} {H : Hp} {a : Addr} {ds : List (List Key × D)} (e : En K B F0 ro (ka ++ [(a, .dit ds)]) ta sg H) : En K B F0 ro ka ((.ref a, .val (.dit ds)) :: ta) sg H := by
  obtain ⟨F, g, e⟩ := e
  obtain ⟨fa, ba, xs, ha, rl⟩ := e.ce (a, .dit ds) (by simp)
  have gg : Gr B F (upd F a (.dT xs)) := ⟨Sub.new fa, fun b h1 h2 => by
    have ne : b ≠ a := fun q => h2 (q ▸ ba)
    rw [upd_ne ne]
    exact h1⟩
  have nd2 := e.nd
  rw [List.map_append, List.nodup_append] at nd2
  refine ⟨upd F a (.dT xs), g.trans gg, ⟨fun b u h => ?_, fun b u h => ?_, e.fr, nd2.1, fun q hq => ?_, e.ln, fun i w h => ?_, fun q hq => ?_⟩⟩
  · by_cases hb : b = a
    · subst hb; rw [upd_same] at h; cases h; rfl
    · rw [upd_ne hb] at h; exact e.nz b u h
  · by_cases hb : b = a
    · subst hb; rw [upd_same] at h; cases h; exact .inl ha
    · rw [upd_ne hb] at h; exact e.fz b u h
  · obtain ⟨h1, h2, h3⟩ := e.ce q (List.mem_append_left _ hq)
    have nq : q.1 ≠ a := fun z => nd2.2.2 q.1 (List.mem_map.mpr ⟨q, hq, rfl⟩) a (by simp) z
    exact ⟨by rw [upd_ne nq]; exact h1, h2, ndok_gr e.nz gg h3⟩
  · obtain ⟨v, h1, h2⟩ := e.sl i w h
    exact ⟨v, h1, wok_gr e.nz gg h2⟩
  · rcases List.mem_cons.mp hq with rfl | hq
    · exact ⟨a, xs, rfl, .inl upd_same, RpT.mono gg.sub.exz e.nz _ _ rl⟩
    · exact wok_gr e.nz gg (e.tm q hq)
theorem EvN.dit {ds : List (List Key × D)} (h : EvN K te ro ka (.dit ds) k1) : EvD K te ro ka (.val (.dit ds)) k1 := fun B F0 ta sg H Q e q => h B F0 ta sg H Q e fun a H1 e1 => q _ _ e1.freeze_t
end
section
variable {K : PySem.W.Frag} {ro : Ro} {ka k1 k2 : Cells} {te tf : TE} {y : W}
theorem rpl_nms {F : Hp} : ∀ {ns : List Nat} {vs : List V}, RpL K F (nmD ns) vs → vs = ns.map fun n : Nat => V.int (n : Int)
  | [], _, h => h
  | n :: ns, _, ⟨x, ys, e, h1, h2⟩ => by
    cases h1
    rw [e, rpl_nms (ns := ns) h2]
    rfl
theorem inV_nms (n : Nat) : ∀ ns : List Nat, inV (.int (n : Int)) (ns.map fun n : Nat => V.int (n : Int)) = decide (n ∈ ns)
  | [] => rfl
  | m :: ns => by
    show (((m : Int) == (n : Int)) || inV (.int (n : Int)) (ns.map fun n : Nat => V.int (n : Int))) = _
    rw [inV_nms n ns, Bool.eq_iff_iff, Bool.or_eq_true, decide_eq_true_eq, decide_eq_true_eq, List.mem_cons, beq_iff_eq]
    exact ⟨fun h => h.elim (fun q => .inl (Int.ofNat_inj.mp q).symm) .inr, fun h => h.elim (fun q => .inl (Int.ofNat_inj.mpr q.symm)) .inr⟩
theorem flat_nms : ∀ ns : List Nat, (ns.map fun n : Nat => V.int (n : Int)).all flatV = true
  | [] => rfl
  | n :: ns => by
    rw [List.map_cons, List.all_cons, flat_nms ns]
    rfl
theorem rv_inN {neg tt b : Bool} {n : Nat} {ns : List Nat} (l : Lk ka y tt (nmD ns) b) : RvD K (rIn K neg) ka (.val (.int (n : Int))) y (.val (.bl (if neg then !decide (n ∈ ns) else decide (n ∈ ns)))) := fun B F0 ro ta sg H u v Q e h1 h2 q => by
  obtain ⟨F, g, ef⟩ := id e
  have hu := e.tm_int h1
  subst hu
  obtain ⟨a, xs, rfl, s1, r1⟩ := l.get ef (ef.tm _ h2)
  have ex := rpl_nms r1
  subst ex
  refine ⟨a, _, rfl, s1.sq, rfl, flat_nms ns, ?_⟩
  rw [inV_nms]
  exact q _ _ (e.push_imm fun _ => rfl)
/-- number in numbers -/
theorem ev_inN {tt b : Bool} {n : Nat} {ns : List Nat} (h : EvD K te ro ka (.val (.int (n : Int))) k1) (h2 : EvD K tf ro k1 y k2) (l : Lk k2 y tt (nmD ns) b) : EvD K (tOp (rInU K) te tf) ro ka (.val (.bl (decide (n ∈ ns)))) k2 := ev_op h h2 (rvd_r (rv_inN (neg := false) l))
/-- two truth values alike -/
theorem ev_eqB {i j : Bool} (h : EvD K te ro ka (.val (.bl i)) k1) (h2 : EvD K tf ro k1 (.val (.bl j)) k2) : EvD K (tOp (rEqP K false) te tf) ro ka (.val (.bl (i == j))) k2 := (ev_eq h h2 .v .v rfl rfl).to (by cases i <;> cases j <;> rfl)
end
/-! a pair among the keys -/
theorem prK_inj {p q : Nat × Nat} (h : prK p = prK q) : p = q := by
  obtain ⟨a, b⟩ := p
  obtain ⟨c, d⟩ := q
  unfold prK at h
  injection h with h1 h2
  injection h2 with h2 _
  injection h1 with h1
  injection h2 with h2
  rw [show a = c from Int.ofNat_inj.mp h1, show b = d from Int.ofNat_inj.mp h2]
theorem put_has {κ α : Type} [DecidableEq κ] (k k' : κ) (v : α) (xs : List (κ × α)) : (getT (putT xs k v) k').isSome = ((getT xs k').isSome || decide (k = k')) := by
  have has : ∀ ys : List (κ × α), (getT ys k').isSome = ys.any fun p => decide (p.1 = k') := fun ys => by
    unfold getT
    rw [Option.isSome_map]
    induction ys with
    | nil => rfl
    | cons y ys ih =>
      rw [List.find?_cons, List.any_cons]
      cases decide (y.1 = k') with
      | true => rfl
      | false => rw [Bool.false_or]; exact ih
  rw [has, has]
  unfold putT
  split
  · rename_i h
    have same : ∀ ys : List (κ × α), (ys.map (newAt k v)).any (fun p => decide (p.1 = k')) = ys.any fun p => decide (p.1 = k') := fun ys => by
      induction ys with
      | nil => rfl
      | cons y ys ih =>
        rw [List.map_cons, List.any_cons, List.any_cons, ih]
        congr 1
        unfold newAt
        split <;> rfl
    rw [same]
    by_cases e : k = k'
    · subst e
      have h' : (xs.any fun p => decide (p.1 = k)) = true := h
      rw [h']
      rfl
    · rw [decide_eq_false e, Bool.or_false]
  · rw [List.any_append]
    simp
theorem prs_in (ps : List (Nat × Nat)) (p : Nat × Nat) : (getT (prsD ps) (prK p)).isSome = decide (p ∈ ps) := by
  have key : ∀ (ps : List (Nat × Nat)) (acc : List (List Key × D)), (getT (ps.foldl (fun acc p => putT acc (prK p) (D.bl true)) acc) (prK p)).isSome = ((getT acc (prK p)).isSome || decide (p ∈ ps)) := by
    intro ps
    induction ps with
    | nil => intro acc; simp
    | cons q ps ih =>
      intro acc
      rw [List.foldl_cons, ih, put_has, Bool.or_assoc]
      congr 1
      rw [Bool.eq_iff_iff, Bool.or_eq_true, decide_eq_true_eq, decide_eq_true_eq, decide_eq_true_eq, List.mem_cons]
      exact ⟨fun h => h.elim (fun z => .inl (prK_inj z).symm) .inr, fun h => h.elim (fun z => .inl (by rw [z])) .inr⟩
  have := key ps []
  rw [show (getT ([] : List (List Key × D)) (prK p)).isSome = false from rfl, Bool.false_or] at this
  exact this
theorem EvI.ws {K : PySem.W.Frag} {wi : TI} {ro : Ro} {ka k1 : Cells} {ws ws' : List W} {C : Cells → Prop} (h : EvI K wi ro ka ws C k1) (e : ws = ws') : EvI K wi ro ka ws' C k1 := e ▸ h
end DL

/-! FC: where the words of a pattern end (own work). -/
namespace DL
open PySem L2 PySem.W
/-- steps one behind another -/
inductive Stp (R : Nat → Nat → Prop) (s : Nat) : Nat → Prop where
  | nil : Stp R s s
  | snoc {m k : Nat} (h : Stp R s m) (hr : R m k) : Stp R s k
end DL

/-! FD: {x: True for x in xs}, xs a list of tuples: the library's DictComp_goesN with the hand layer's state as what holds at each turn (own work). -/
namespace DL
open PySem L2 PySem.W PyProof.Rows
section
variable {X : Cx}
/-- a tuple of numbers and texts put as a key -/
theorem put_tup {pins : List (Addr × Obj)} {sg : L2.St} {H : Hp} {s : Shared} {E : Value → Shared → Prop} {A : Around} {D b : Addr} {old : List (List Key × V)} {k : List Key} {v : V} {r : Value} {Q : Unit → Shared → Prop} (room : A.units < cLine) (I : L2.Inv X pins sg H s)
    (hD : H D = some (.dT old)) (hb : H b = some (.tup (k.map kV))) (few : old.length < sizeLine) (rv : RelV v r) (q : ∀ h' t, L2.Inv X pins sg (upd H D (.dT (putK old k v))) { s with heap := h', toks := t } → Heap.SameBut D s.heap h' → Q () { s with heap := h', toks := t }) :
    wpAny (model X.prog X.w) A (dictSet D (.ref b) r) Q E s := by
  obtain ⟨_, sys, xs, rel, now⟩ := dt_of I.hok hD
  have size : (putK old k v).length ≤ sizeLine := Nat.le_trans (length_putK old k v) few
  refine wpAny_dictSet_heap (knd := tupleKind (mixKind X.prog X.w)) room (key_of I.hok hb) now (fun h' then_ same => q h' _ ?_ same) (hsz := (Paired.length rel).symm ▸ Nat.le_of_lt few)
  obtain ⟨o, es, ep, ho, p1, p2, p3, _, p4⟩ := then_
  have still : ∀ {c : Addr} {ys : List V}, H c = some (.tup ys) → (upd H D (.dT (putK old k v))) c = some (.tup ys) := fun {c ys} e => (upd_ne fun z => by rw [z, hD] at e; cases e).trans e
  exact d_write I (hD ▸ trivial) same ⟨o, ho⟩ ⟨size, sys, _, (rel.put k hb rv).keeps fun c ys e => still e, o, es, ep, ho, p1, p2, p3, p4⟩
/-- the keys put one behind another, each with v -/
def rowsT (v : V) (ks : List (List Key)) : List (List Key × V) := ks.foldl (fun d k => putK d k v) []
theorem rowsT_len {v : V} (ks : List (List Key)) : (rowsT v ks).length ≤ ks.length := by
  have all : ∀ (l : List (List Key)) (d : List (List Key × V)), (l.foldl (fun d k => putK d k v) d).length ≤ d.length + l.length := by
    intro l
    induction l with
    | nil => exact fun d => Nat.le_refl _
    | cons k l ih =>
      intro d
      have := ih (putK d k v)
      have := length_putK d k v
      simp only [List.foldl_cons, List.length_cons] at *
      omega
  simpa [rowsT] using all ks []
theorem rowsT_take {v : V} {ks : List (List Key)} {i : Nat} {k : List Key} (h : ks[i]? = some k) : rowsT v (ks.take (i + 1)) = putK (rowsT v (ks.take i)) k v := by
  rw [List.take_add_one, h]
  exact List.foldl_append ..
/-- {x: v for x in te}, te a list of the tuples at bs, which we know as ks -/
def tKeysT (K : PySem.W.Frag) (v : V) (te : TE) : TE := fun σ H Q => te σ H fun x H1 => ∃ (l : Addr) (bs : List Addr) (ks : List (List Key)), x = .ref l ∧ SqL K H1 l (bs.map V.ref) ∧ ks.length = bs.length ∧ (∀ (i : Nat) (b : Addr) (k : List Key), bs[i]? = some b → ks[i]? = some k → H1 b = some (.tup (k.map kV))) ∧
  bs.length < sizeLine ∧ ∀ D, H1 D = none → Q (.ref D) (upd H1 D (.dT (rowsT v ks)))
theorem vals_refs {bs : List Addr} {its : List Value} (h : Vals (bs.map V.ref) its) : its = bs.map Value.ref := by
  induction bs generalizing its with
  | nil => cases h; rfl
  | cons b bs ih =>
    cases h with
    | cons r rr =>
      cases r
      rw [ih rr]
      rfl
theorem pe_keysT {y : Str} {py pz spos : Pos} {vx iter : Expr} {scope : Scope} {te : TE} {v : V} {r : Value} (room : X.A.units < cLine) (calm : X.calm = true) (he : PE X iter te) (rv : RelV v r) (hv : ∀ (env : Env) (s : Shared) (Q : Value → Shared → Prop) (E : Value → Shared → Prop), Q r s → wpAny (model X.prog X.w) X.A (eval vx env) Q E s)
    (clo : closureFor scope X.env = pure []) (nm : (scope.names.all fun z => decide (z.2 = .local) && decide (scope.names.lookup z.1 = some .local)) = true) (lk : scope.names.lookup y = some .local) (fn : scope.kind = .function) (hd : (y == ("__debug__" : Str)) = false := by decide) (hs : ∀ x, foldedSetIterable iter X.env x = pure x := by intro _; rfl) :
    PE X (.DictComp (.Name y py) vx [⟨.Name y pz, iter, [], 0⟩] scope spos) (tKeysT X.K v te) where
  run pins s σ H Q I h := by
    have loc : ∀ C, (compEnvC scope [] C X.env).kindOf y = some .local := fun C => by
      show ((relabel scope X.env).names).lookup y = some .local
      exact lookup_relabel_local lk
    have kd : ∀ C, (compEnvC scope [] C X.env).scope.kind = .function := fun C => fn
    have each : ∀ z ∈ scope.names, z.2 = .local ∧ scope.names.lookup z.1 = some .local := fun z m => by simpa using List.all_eq_true.mp nm z m
    refine DictComp_goesN clo (fun z m => by rw [(each z m).1]; decide) fn (fun z m _ => (each z m).2) (thn (he.run pins s σ H _ I h) ?_) hs
    rintro u s1 ⟨x, H1, I1, rx, l, bs, ks, rfl, hq, hl, tups, few, q⟩
    cases rx
    obtain ⟨its, vals, lst, _⟩ := I1.list hq
    have ei := vals_refs vals
    have low : l < s1.heap.objs.size := lst.lt
    refine wpAny_pyIter_list lst.isList ?_
    have I2 : L2.Inv X pins σ H1 { s1 with heap := s1.heap.push { cls := .type "list_iterator", data := .fields #[.ref l, .int 0 0] } } := I1.kept (t' := s1.toks) fun b o e => Heap.get?_push_of_some _ e
    generalize hit : s1.heap.objs.size = it at low
    generalize hs2 : ({ s1 with heap := s1.heap.push { cls := .type "list_iterator", data := .fields #[.ref l, .int 0 0] } } : Shared) = s2 at I2
    have size2 : s2.heap.objs.size = it + 1 := by rw [← hs2, ← hit]; exact Heap.size_push ..
    have iter2 : s2.heap.IsListIter it l 0 := by rw [← hs2, ← hit]; exact ⟨_, Heap.get?_push_size _ rfl, rfl, rfl⟩
    have lst2 : s2.heap.IsList l its.toArray := by rw [← hs2]; exact lst.isList.at fun o e => Heap.get?_push_of_some _ e
    have nIt : H1 it = none := I1.hok.fresh (Nat.le_of_eq hit)
    refine ⟨it, [it, l], [it], its.toArray.size, _, _, rfl, (Goes.list (I.ok.hd calm) it l (Nat.ne_of_lt low) its.toArray).toN, ⟨iter2, lst2⟩, fun D C s3 beg atD => ?_⟩
    have nD : H1 D = none := I2.hok.fresh beg.newD
    have nC : H1 C = none := I2.hok.fresh beg.newC
    have itD : it ≠ D := fun z => absurd beg.newD (by rw [size2, ← z]; exact Nat.not_succ_le_self _)
    have itC : it ≠ C := fun z => absurd beg.newC (by rw [size2, ← z]; exact Nat.not_succ_le_self _)
    have lD : l ≠ D := fun z => absurd beg.newD (by rw [size2, ← z]; exact Nat.not_le.mpr (Nat.lt_succ_of_lt low))
    have lC : l ≠ C := fun z => absurd beg.newC (by rw [size2, ← z]; exact Nat.not_le.mpr (Nat.lt_succ_of_lt low))
    let HD : Nat → Hp := fun i => upd H1 D (.dT (rowsT v (ks.take i)))
    have fIt : ∀ i, FpOk X pins (HD i) it := fun i => I1.fpOk (Nat.le_of_eq hit) ((upd_ne itD).trans nIt)
    have fC : ∀ i, FpOk X pins (HD i) C := fun i => I2.fpOk beg.newC ((upd_ne (Ne.symm beg.ne)).trans nC)
    have turned : ∀ {i : Nat} {b : Addr} {s' : Shared} {h' : Heap} {t : Nat}, L2.Inv X pins σ (HD i) s' → FpOk X pins (HD i) b → (∀ c o, c ≠ b → s'.heap.get? c = some o → h'.get? c = some o) → L2.Inv X pins σ (HD i) { s' with heap := h', toks := t } := fun J f k =>
      J.turned k f.1 f.2.1 f.2.2.2.1 f.2.2.2.2.1 f.2.2.2.2.2
    have sys : (D == sysModules) = false := beq_eq_false_iff_ne.mpr fun z => absurd (Nat.lt_of_lt_of_le I2.big beg.newD) (by rw [z]; exact Nat.lt_irrefl _)
    have begin_ : L2.Inv X pins σ (HD 0) s3 := by
      obtain ⟨h3, t3, e3⟩ := beg.only
      have := beg.old
      rw [e3] at this atD ⊢
      exact I2.laid this beg.newD ⟨Nat.zero_le _, sys, [], .nil, _, #[], 0, atD, ⟨rfl, rfl, rfl⟩, rfl, rfl, List.nodup_nil⟩
    refine ⟨fun i s' => (∃ m, s'.heap.Ns C m) ∧ L2.Inv X pins σ (HD i) s', ⟨⟨_, beg.names⟩, begin_⟩, fun i s' h' tk g keep _ => ?_, fun i w s0 s' hi _ _ at_ st g => ?_, fun s' g => ?_⟩
    · obtain ⟨⟨m, ns⟩, J⟩ := g
      exact ⟨⟨m, ns.at fun o e => keep C o (by simpa using itC.symm) e⟩, turned J (fIt i) fun c o ne e => keep c o (by simpa using ne) e⟩
    · obtain ⟨⟨m, ns⟩, J⟩ := g
      have lt : i < bs.length := by rw [ei] at hi; simpa using hi
      obtain ⟨b, hb⟩ : ∃ b, bs[i]? = some b := ⟨_, List.getElem?_eq_getElem lt⟩
      obtain ⟨k, hk⟩ : ∃ k, ks[i]? = some k := ⟨_, List.getElem?_eq_getElem (hl ▸ lt)⟩
      obtain rfl : w = .ref b := by
        have z : its.toArray[i]? = some w := at_
        rw [List.getElem?_toArray, ei, List.getElem?_map, hb] at z
        exact (Option.some.inj z).symm
      refine wpAny_assign_Name (wpAny_storeName_local (m := m) (loc C) ns (fun h4 ns4 same4 => wpAny_tests_nil ?_) (by rw [kd]; rfl))
      rw [if_pos rfl]
      refine wpAny_Name (wpAny_loadName_local (kd C) (loc C) ns4 (if_pos rfl) (hv _ _ _ _ ?_)) hd
      have J4 : L2.Inv X pins σ (HD i) { s' with heap := h4, toks := s'.toks + 1 } := turned J (fC i) fun c o ne e => (same4.2 c ne).trans e
      have st4 : h4.IsListIter it l (i + 1) ∧ h4.IsList l its.toArray := ⟨st.1.at fun o e => (same4.2 it itC).trans e, st.2.at fun o e => (same4.2 l lC).trans e⟩
      have tup := tups i b k hb hk
      have bD : b ≠ D := fun z => by rw [z, nD] at tup; cases tup
      refine put_tup room J4 (old := rowsT v (ks.take i)) upd_same ((upd_ne bD).trans tup) ?_ rv fun h5 t5 J5 same5 => ?_
      · exact Nat.lt_of_le_of_lt (Nat.le_trans (rowsT_len _) (by rw [List.length_take, hl]; exact Nat.min_le_right _ _)) few
      · rw [upd_upd, ← rowsT_take hk] at J5
        exact ⟨⟨⟨_, ns4.at fun o e => (same5.2 C (Ne.symm beg.ne)).trans e⟩, J5⟩, st4.1.at fun o e => (same5.2 it itD).trans e, st4.2.at fun o e => (same5.2 l lD).trans e⟩
    · obtain ⟨⟨m, ns⟩, J⟩ := g
      have all : HD its.toArray.size = upd H1 D (.dT (rowsT v ks)) := by
        show upd H1 D (.dT (rowsT v (ks.take _))) = _
        rw [List.take_of_length_le (by rw [hl, ei]; simp)]
      rw [all] at J
      exact ⟨m, ns, fun h' same => ⟨.ref D, _, turned (i := its.toArray.size) (b := C) (t := s'.toks) (all ▸ J) (fC _) (fun c o ne e => (same.2 c ne).trans e), rfl, all ▸ q D nD⟩⟩
end
end DL
namespace DL
open PySem L2 PySem.W
section
variable {K : PySem.W.Frag} {B F F0 : Hp} {ro : Ro} {ka k1 k2 : Cells} {ta : List (V × W)} {sg : L2.St} {H H' : Hp} {te : TE}
/-- pairs of numbers in a list: each stands as a tuple of its own -/
theorem prs_at (np : NoP K) (e : EnF K B F ro ka ta sg H) : ∀ (ps : List (Nat × Nat)) (xs : List V), RpL K F (ps.map prD) xs → ∃ bs : List Addr, xs = bs.map V.ref ∧ bs.length = ps.length ∧ ∀ (i : Nat) (b : Addr) (k : List Key), bs[i]? = some b → (ps.map prK)[i]? = some k → H b = some (.tup (k.map kV))
  | [], xs, h => ⟨[], h, rfl, fun i b k h => by simp at h⟩
  | p :: ps, xs, h => by
    obtain ⟨x, ys, rfl, hx, hy⟩ := h
    obtain ⟨b, rfl, hb⟩ := pr_at np e hx
    obtain ⟨bs, rfl, hl, at_⟩ := prs_at np e ps ys hy
    refine ⟨b :: bs, rfl, congrArg (· + 1) hl, fun i c k hc hk => ?_⟩
    cases i with
    | zero =>
      cases hc
      cases hk
      exact hb
    | succ i => exact at_ i c k hc hk
/-- the keys of a dict out of pairs, as data -/
def prsT (d : D) (ps : List (Nat × Nat)) : List (List Key × D) := ps.foldl (fun acc p => putT acc (prK p) d) []
theorem rows_rel {d : D} {v : V} (h : Rp K F d v) (ps : List (Nat × Nat)) : RpT K F (prsT d ps) (rowsT v (ps.map prK)) := by
  have all : ∀ (ps : List (Nat × Nat)) (a : List (List Key × D)) (b : List (List Key × V)), RpT K F a b → RpT K F (ps.foldl (fun acc p => putT acc (prK p) d) a) ((ps.map prK).foldl (fun acc k => putK acc k v) b) := by
    intro ps
    induction ps with
    | nil => exact fun _ _ z => z
    | cons p ps ih => exact fun a b z => ih _ _ (rpt_pt.mpr ((rpt_pt.mp z).put (prK p) h))
  exact all ps [] [] rfl
/-- {pair: True for pair in ..} -/
theorem evn_keysT {ps : List (Nat × Nat)} (np : NoP K) (h : EvD K te ro ka (.val (.lst (ps.map prD))) k1) (few : ps.length < 100000) : EvN K (tKeysT K (.bl true) te) ro ka (.dit (prsT (.bl true) ps)) k1 := fun B F0 ta sg H Q e q =>
  h B F0 ta sg H _ e fun u H1 ⟨F, g, ef⟩ => by
    obtain ⟨l, xs, rfl, sl, rl⟩ := Lk.vl.get ef (ef.tm _ List.mem_cons_self)
    obtain ⟨bs, rfl, hl, at_⟩ := prs_at np ef ps xs rl
    refine ⟨l, bs, ps.map prK, rfl, .inl (by simpa [SqB] using sl), by rw [List.length_map, hl], at_, hl ▸ Nat.lt_of_lt_of_le few (by decide), fun Dl hD => q Dl _ ⟨F, g, ?_⟩⟩
    exact (ef.held (ta' := ta) fun p hp => List.mem_cons_of_mem _ hp).cell (o := .dT _) hD (n := .dit (prsT (.bl true) ps)) ⟨_, upd_same, rows_rel (show Rp K F (.bl true) (.bl true) from rfl) ps⟩
end
end DL

/-! FE: the ends of a pattern's words, as the law counts them (own work). -/
namespace DL
open PySem L2 PySem.W
/-- the places not there yet, appended -/
def addN (acc : List Nat) (ps : List Nat) : List Nat := ps.foldl (fun acc p => if p ∈ acc then acc else acc ++ [p]) acc
theorem addN_cons (acc : List Nat) (p : Nat) (ps : List Nat) : addN acc (p :: ps) = addN (if p ∈ acc then acc else acc ++ [p]) ps := rfl
theorem addN_ext (ps : List Nat) : ∀ acc, ∃ r, addN acc ps = acc ++ r := by
  induction ps with
  | nil => exact fun acc => ⟨[], (List.append_nil _).symm⟩
  | cons p ps ih =>
    intro acc
    rw [addN_cons]
    split
    · exact ih acc
    · obtain ⟨r, e⟩ := ih (acc ++ [p])
      exact ⟨p :: r, by rw [e, List.append_assoc]; rfl⟩
theorem addN_mem {x : Nat} (ps : List Nat) : ∀ acc, x ∈ addN acc ps ↔ x ∈ acc ∨ x ∈ ps := by
  induction ps with
  | nil => exact fun acc => by simp [addN]
  | cons p ps ih =>
    intro acc
    rw [addN_cons, ih]
    split
    · rename_i h
      simp only [List.mem_cons]
      constructor
      · rintro (z | z)
        · exact .inl z
        · exact .inr (.inr z)
      · rintro (z | rfl | z)
        · exact .inl z
        · exact .inl h
        · exact .inr z
    · simp only [List.mem_append, List.mem_cons, List.not_mem_nil, or_false]
      rw [or_assoc]
theorem addN_nodup (ps : List Nat) : ∀ acc, acc.Nodup → (addN acc ps).Nodup := by
  induction ps with
  | nil => exact fun acc h => h
  | cons p ps ih =>
    intro acc h
    rw [addN_cons]
    split
    · exact ih acc h
    · rename_i hp
      refine ih _ (List.nodup_append.mpr ⟨h, by simp, fun a ha b hb => ?_⟩)
      rw [List.mem_singleton.mp hb]
      exact fun z => hp (z ▸ ha)
structure RepI (f : Nat → List Nat) (L s n : Nat) (found : List Nat) (i : Nat) : Prop where
  nd : found.Nodup
  le : ∀ x ∈ found, x ≤ L
  st : s ∈ found
  sound : ∀ x ∈ found, Stp (fun m k => k ∈ f m) s x
  shut : ∀ j x, j < i → found[j]? = some x → ∀ k ∈ f x, k ∈ found
  at_ : i ≤ found.length
  fuel : L + 2 ≤ n + i
theorem RepI.next {f : Nat → List Nat} {L s n : Nat} {found : List Nat} {i p : Nat} (bd : ∀ m ≤ L, ∀ k ∈ f m, k ≤ L) (h : RepI f L s (n + 1) found i) (hp : found[i]? = some p) : RepI f L s n (addN found (f p)) (i + 1) := by
  have mp := List.mem_of_getElem? hp
  obtain ⟨r, er⟩ := addN_ext (f p) found
  have lt := (List.getElem?_eq_some_iff.mp hp).1
  refine ⟨addN_nodup _ _ h.nd, fun x hx => ?_, (addN_mem _ _).mpr (.inl h.st), fun x hx => ?_, fun j x hj hx k hk => ?_, ?_, by have := h.fuel; omega⟩
  · rcases (addN_mem _ _).mp hx with z | z
    · exact h.le x z
    · exact bd p (h.le p mp) x z
  · rcases (addN_mem _ _).mp hx with z | z
    · exact h.sound x z
    · exact .snoc (h.sound p mp) z
  · by_cases e : j = i
    · subst e
      rw [er, List.getElem?_append_left lt, hp] at hx
      cases hx
      exact (addN_mem _ _).mpr (.inr hk)
    · have lj : j < i := by omega
      rw [er, List.getElem?_append_left (by omega)] at hx
      exact (addN_mem _ _).mpr (.inl (h.shut j x lj hx k hk))
  · rw [er, List.length_append]
    omega
theorem Stp.imp {R S : Nat → Nat → Prop} {s L : Nat} (hs : s ≤ L) (hR : ∀ m k, m ≤ L → R m k → S m k ∧ k ≤ L) {k : Nat} (h : Stp R s k) : Stp S s k ∧ k ≤ L := by
  induction h with
  | nil => exact ⟨.nil, hs⟩
  | snoc _ hr ih =>
    obtain ⟨h1, h2⟩ := hR _ _ ih.2 hr
    exact ⟨.snoc ih.1 h1, h2⟩
end DL

/-! FF: defs with a star parameter, by contracts about the tuple (own work). -/
namespace DL
open PySem L2 PySem.W PyProof.Rows
/-- a contract about the tuple of all arguments, told by the arguments -/
def CtV (C : Ct) : Ct := fun ws ka out => ∃ ds : List D, ws = ds.map W.val ∧ ds.length ≤ 100000 ∧ C [.val (.tup ds)] ka out
/-- the def at f, which takes any number of arguments, keeps C of their tuple -/
def FnV (P : Program) (w : World) (K : PySem.W.Frag) (mg : Str → Option Value) (base : Heap) (k : Nat) (f : Addr) (C : Ct) : Prop := FnR P w K mg base (L2.CX P w) k f (spC K (CtV C))
section
variable {P : Program} {w : World} {K : PySem.W.Frag} {mg : Str → Option Value} {base : Heap} {f : Addr} {fd : FuncData} {x qual pv : Str} {params : Arguments} {body : List Stmt} {scope : Scope} {N : List Str} {k j : Nat} {C : Ct}
theorem FnV.up (F : FnV P w K mg base j f C) (h : j ≤ k) : FnV P w K mg base k f C := FnR.mono F h
end
section
variable {X : Cx} {k : Nat} {f : Addr} {C : Ct} {E : XK} {x : Str} {p pos : Pos} {e : Expr} {es : List Expr} {t : TA}
end
end DL

/-! FG: patterns turned about and multiplied (own work). -/
namespace DL
open PySem L2 PySem.W
/-- one sequence of lanes -/
def wdT : Str → List Str → Tr
  | x, l => l.foldl (fun t y => .join t (.at true [y])) (.at true [x])
theorem wdT_snoc (x y : Str) (l : List Str) : wdT x (l ++ [y]) = .join (wdT x l) (.at true [y]) := by
  show List.foldl _ _ (l ++ [y]) = _
  rw [List.foldl_append]
  rfl
end DL
namespace DL
open PySem L2 PySem.W
end DL

/-! FH: errors without fields handed on (own work). -/
namespace DL
open PySem L2 PySem.W
section
variable {K : PySem.W.Frag} {B F0 : Hp} {ro : Ro} {ka k1 k2 : Cells} {ta : List (V × W)} {te tf : TE} {tr : TA} {De : Ends} {u : TS} {C1 : Addr} {gs : List (Str × D)} {out : Oc} {E : XK} {w : W}
theorem g_dropP0 (hX : RxOk K B F0 out E) (h : EvX0 K te ro ka E C1 k2) (o : out (.exc0 C1) k2) : Gp K B F0 ta (tDrop te De) ro ka := fun sg H e => h B F0 ta sg H _ e fun H' e' => hX.2 C1 k2 H' o e'.leaveX
theorem q_dropP0 (hX : RxOk K B F0 out E) (h : EvX0 K te ro ka E C1 k2) (o : out (.exc0 C1) k2) : Gp K B F0 ta (tSeq (tDrop te) u De) ro ka := g_dropP0 (De := { De with nx := u De }) hX h o
theorem g_retP0 (hX : RxOk K B F0 out E) (h : EvX0 K te ro ka E C1 k2) (o : out (.exc0 C1) k2) : Gp K B F0 ta (tRet te De) ro ka := fun sg H e => h B F0 ta sg H _ e fun H' e' => hX.2 C1 k2 H' o e'.leaveX
theorem g_retPX (hX : RxOk K B F0 out E) (h : EvX K te ro ka E C1 gs k2) (o : out (.exc C1 gs) k2) : Gp K B F0 ta (tRet te De) ro ka := fun sg H e => h B F0 ta sg H _ e fun dx H' e' => hX.1 C1 gs k2 dx H' o e'.leaveX
/-- f(g(..)) where g raises -/
theorem evx_arg {sp : Sp} {E' : XK} {dvs : List V} (h : EvX K te ro ka E C1 gs k2) : EvX K (tCall sp dvs E' (tCons te tr)) ro ka E C1 gs k2 := fun B F0 ta sg H Q e q => h B F0 ta sg H _ e q
theorem evx0_arg {sp : Sp} {E' : XK} {dvs : List V} (h : EvX0 K te ro ka E C1 k2) : EvX0 K (tCall sp dvs E' (tCons te tr)) ro ka E C1 k2 := fun B F0 ta sg H Q e q => h B F0 ta sg H _ e q
/-- x.f where x raises -/
theorem evx_fld {f : Str} (h : EvX K te ro ka E C1 gs k2) : EvX K (tFld K te f) ro ka E C1 gs k2 := fun B F0 ta sg H Q e q => h B F0 ta sg H _ e q
theorem evx0_fld {f : Str} (h : EvX0 K te ro ka E C1 k2) : EvX0 K (tFld K te f) ro ka E C1 k2 := fun B F0 ta sg H Q e q => h B F0 ta sg H _ e q
end
end DL

/-! FI: `is not` between truth values (own work). -/
namespace DL
open PySem L2 PySem.W
section
variable {K : PySem.W.Frag} {ro : Ro} {ka k1 k2 : Cells} {te tf : TE}
end
end DL

/-! FJ: dicts whose keys are tuples of any depth: read, asked, written (own work). -/
namespace DL
open PySem L2 PySem.W PyProof.Rows

/-! ### rows -/
/-- keys and values alone -/
def rowN {α : Type} (xs : List (NestedKey × Addr × α)) : List (NestedKey × α) := xs.map fun x => (x.1, x.2.2)
def setA {α : Type} (k : NestedKey) (v : α) (x : NestedKey × Addr × α) : NestedKey × Addr × α := if x.1 = k then (x.1, x.2.1, v) else x
/-- a key that stands keeps its place and its own thing -/
def putA {α : Type} (xs : List (NestedKey × Addr × α)) (k : NestedKey) (b : Addr) (v : α) : List (NestedKey × Addr × α) :=
  if hasT (rowN xs) k = true then xs.map (setA k v) else xs ++ [(k, b, v)]
section
variable {α : Type}
theorem rowN_put (xs : List (NestedKey × Addr × α)) (k : NestedKey) (b : Addr) (v : α) : rowN (putA xs k b v) = putT (rowN xs) k v := by
  unfold putA putT
  split
  · unfold rowN
    rw [List.map_map, List.map_map]
    refine List.map_congr_left fun x _ => ?_
    by_cases e : x.1 = k
    · simp only [Function.comp, setA, e, if_true, newAt]
    · simp only [Function.comp, setA, e, if_false, newAt]
  · unfold rowN
    rw [List.map_append]
    rfl
theorem putA_len (xs : List (NestedKey × Addr × α)) (k : NestedKey) (b : Addr) (v : α) : (putA xs k b v).length ≤ xs.length + 1 := by
  unfold putA
  split
  · rw [List.length_map]; omega
  · rw [List.length_append, List.length_cons, List.length_nil]; omega
/-- the keys of the new row stood, or are the new one -/
theorem putA_mem {xs : List (NestedKey × Addr × α)} {k : NestedKey} {b : Addr} {v : α} {q : NestedKey × Addr × α} (h : q ∈ putA xs k b v) : (q.1 = k ∧ q.2.1 = b) ∨ ∃ x ∈ xs, q.1 = x.1 ∧ q.2.1 = x.2.1 := by
  unfold putA at h
  split at h
  · obtain ⟨x, hx, rfl⟩ := List.mem_map.mp h
    refine .inr ⟨x, hx, ?_⟩
    unfold setA
    split <;> exact ⟨rfl, rfl⟩
  · rcases List.mem_append.mp h with h | h
    · exact .inr ⟨q, h, rfl, rfl⟩
    · rw [List.mem_singleton.mp h]
      exact .inl ⟨rfl, rfl⟩
end
/-- a row of values as they are seen, as they lie -/
abbrev SeesN : List (NestedKey × Addr × V) → List (NestedKey × Addr × Value) → Prop := Paired fun p q => p.1 = q.1 ∧ p.2.1 = q.2.1 ∧ RelV p.2.2 q.2.2
theorem SeesN.has {xs : List (NestedKey × Addr × V)} {qs : List (NestedKey × Addr × Value)} (r : SeesN xs qs) (k : NestedKey) :
    (getT (rowN xs) k = none ∧ hasT (rowN xs) k = false ∧ atKey qs k = none) ∨ ∃ v p, getT (rowN xs) k = some v ∧ hasT (rowN xs) k = true ∧ atKey qs k = some p ∧ RelV v p.2 := by
  unfold SeesN at r
  induction r with
  | nil => exact .inl ⟨rfl, rfl, rfl⟩
  | @cons p q ps qs h t ih =>
    obtain ⟨h1, h2, h3⟩ := h
    by_cases e : p.1 = k
    · refine .inr ⟨p.2.2, q.2, ?_, ?_, ?_, h3⟩
      · show getT ((p.1, p.2.2) :: rowN ps) k = _
        simp [getT, e]
      · show hasT ((p.1, p.2.2) :: rowN ps) k = _
        simp [hasT, e]
      · have e2 : q.1 = k := h1.symm.trans e
        simp [atKey, e2]
    · have e2 : ¬ q.1 = k := fun z => e (h1.trans z)
      have a1 : getT (rowN (p :: ps)) k = getT (rowN ps) k := by
        show getT ((p.1, p.2.2) :: rowN ps) k = _
        simp [getT, e]
      have a2 : hasT (rowN (p :: ps)) k = hasT (rowN ps) k := by
        show hasT ((p.1, p.2.2) :: rowN ps) k = _
        simp [hasT, e]
      have a3 : atKey (q :: qs) k = atKey qs k := by simp [atKey, e2]
      rw [a1, a2, a3]
      exact ih
theorem SeesN.put {xs : List (NestedKey × Addr × V)} {qs : List (NestedKey × Addr × Value)} (r : SeesN xs qs) (k : NestedKey) (b : Addr) {v : V} {u : Value} (rv : RelV v u) : SeesN (putA xs k b v) (storedH qs k b u) := by
  have hh : hasT (rowN xs) k = (atKey qs k).isSome := by
    rcases r.has k with ⟨_, h, h2⟩ | ⟨_, _, _, h, h2, _⟩ <;> rw [h, h2] <;> rfl
  unfold putA storedH
  rw [hh]
  split
  · unfold SeesN at r
    clear hh
    rename_i hx
    clear hx
    induction r with
    | nil => exact .nil
    | @cons p q ps qs h t ih =>
      obtain ⟨h1, h2, h3⟩ := h
      refine .cons ?_ ih
      unfold putAt setA
      by_cases e : p.1 = k
      · rw [if_pos e, if_pos (h1.symm.trans e)]
        exact ⟨h1, h2, rv⟩
      · rw [if_neg e, if_neg fun z => e (h1.trans z)]
        exact ⟨h1, h2, h3⟩
  · exact Paired.snoc r ⟨rfl, rfl, rv⟩

/-! ### in the heap -/
/-- the row holds whatever else the heap holds -/
theorem dnO_stay {w : World} {a : Addr} {xs : List (NestedKey × Addr × V)} {φ : Heap → Prop} (e : DnO w a xs = .ext φ) : ∀ h1 h2 : Heap, φ h1 → (∀ o, h1.get? a = some o → h2.get? a = some o) → φ h2 := by
  unfold DnO at e
  cases e
  rintro h1 h2 ⟨z, y, qs, r, o, es, ep, ho, t⟩ k
  exact ⟨z, y, qs, r, o, es, ep, k _ ho, t⟩
/-- all its keys stand where they are told -/
def NAt (K : PySem.W.Frag) (H : Hp) (w : World) (a : Addr) (xs : List (NestedKey × Addr × V)) : Prop := Rd H a (DnO w a xs) ∧ ∀ x ∈ xs, RkN K H x.1 (.ref x.2.1) ∧ x.1.depth ≤ 8
section
variable {X : Cx} {pins : List (Addr × Obj)} {σ : L2.St} {H : Hp} {s : Shared} {a b : Addr} {xs : List (NestedKey × Addr × V)}
mutual
theorem key_is (I : L2.Inv X pins σ H s) : ∀ (k : NestedKey) (v : V) (u : Value), RkN X.K H k v → RelV v u → NestedIs s.heap k u
  | .none, _, _, h, r => by
    subst h
    cases (show _ = Value.none from r)
    exact .none
  | .num i, _, _, h, r => by
    subst h
    obtain ⟨t, rfl⟩ := (show ∃ t, _ = Value.int i t from r)
    exact .int i t
  | .text x, _, _, h, r => by
    subst h
    obtain ⟨t, rfl⟩ := (show ∃ t, _ = Value.str x t from r)
    exact .text x t
  | .tup ks, _, _, h, r => by
    obtain ⟨c, ys, rfl, h1, h2⟩ := h
    cases (show _ = Value.ref c from r)
    obtain ⟨its, rel, ⟨o, ho, hc, n, hd⟩, _⟩ := I.tuple h1
    exact .tup ho hc hd (by simpa using keys_are I ks ys its h2 rel)
theorem keys_are (I : L2.Inv X pins σ H s) : ∀ (ks : List NestedKey) (vs : List V) (us : List Value), RkL X.K H ks vs → Vals vs us → NestedAll s.heap ks us
  | [], _, us, h, r => by
    subst h
    cases r
    exact .nil
  | k :: ks, _, us, h, r => by
    obtain ⟨x, ys, rfl, h1, h2⟩ := h
    cases r with
    | cons r1 r2 => exact .cons (key_is I k x _ h1 r1) (keys_are I ks ys _ h2 r2)
end
theorem dn_at (I : L2.Inv X pins σ H s) (n : NAt X.K H X.w a xs) : xs.length ≤ sizeLine ∧ (a == sysModules) = false ∧ ∃ qs, SeesN xs qs ∧ s.heap.DictOfH (nestedKind X.prog X.w) a qs := by
  obtain ⟨z, y, qs, r, o, es, ep, ho, hc, hd, he, hn⟩ := (show ObjOk X.prog X.w H s.heap a (DnO X.w a xs) from n.1.ok I.hok).1
  refine ⟨z, y, qs, r, o, es, ep, ho, hc, hd, he, ?_, hn⟩
  have all : ∀ {l : List (NestedKey × Addr × V)} {m : List (NestedKey × Addr × Value)}, SeesN l m → (∀ x ∈ l, RkN X.K H x.1 (.ref x.2.1) ∧ x.1.depth ≤ 8) → ∀ x ∈ m, (nestedKind X.prog X.w).is s.heap x.1 x.2.1 := by
    intro l m q
    unfold SeesN at q
    induction q with
    | nil => exact fun _ x hx => nomatch hx
    | @cons p q ps qs hq t ih =>
      intro hl x hx
      rcases List.mem_cons.mp hx with rfl | hx
      · obtain ⟨k1, k2⟩ := hl p List.mem_cons_self
        obtain ⟨e1, e2, _⟩ := hq
        rw [← e1, ← e2]
        exact ⟨key_is I _ _ _ k1 rfl, k2⟩
      · exact ih (fun y hy => hl y (List.mem_cons_of_mem _ hy)) x hx
  exact all r n.2
theorem key_room {A : Around} (hu : A.units + 16 < cLine) : (nestedKind X.prog X.w).room A.in1 := by
  show A.in1.units + 8 < cLine
  rw [Around.in1_units]
  omega
/-- another row is laid at the dict's address -/
theorem dn_put (I : L2.Inv X pins σ H s) (e : H a = some (DnO X.w a xs)) {ys : List (NestedKey × Addr × V)} {qs : List (NestedKey × Addr × Value)} {h' : Heap} {t' : Nat} (z : ys.length ≤ sizeLine) (y : (a == sysModules) = false) (r : SeesN ys qs) (dd : h'.DictOfH (nestedKind X.prog X.w) a qs) (hs : Heap.SameBut a s.heap h') :
    L2.Inv X pins σ (upd H a (DnO X.w a ys)) { s with heap := h', toks := t' } := by
  obtain ⟨o, es, ep, ho, hc, hd, he, _, hn⟩ := dd
  refine d_write I (by rw [e]; exact True.intro) hs ⟨o, ho⟩ ⟨⟨z, y, qs, r, o, es, ep, ho, hc, hd, he, hn⟩, ⟨o, ho⟩, dnO_stay rfl⟩
end

theorem hu16 {k : Nat} {A : Around} (r : Room k A) : A.units + 16 < cLine := by
  have := r.un
  omega
/-! ### readings and rules -/
/-- d[y] -/
def tNGet (K : PySem.W.Frag) (w : World) (td ty : TE) : TE := fun σ H Q => td σ H fun x H1 => ty σ H1 fun y H2 => ∃ a xs k b v, x = .ref a ∧ y = .ref b ∧ NAt K H2 w a xs ∧ RkN K H2 k (.ref b) ∧ k.depth ≤ 8 ∧ getT (rowN xs) k = some v ∧ Q v H2
def tNNotIn (K : PySem.W.Frag) (w : World) (ty td : TE) : TE := fun σ H Q => ty σ H fun y H1 => td σ H1 fun x H2 => ∃ a xs k b, x = .ref a ∧ y = .ref b ∧ NAt K H2 w a xs ∧ RkN K H2 k (.ref b) ∧ k.depth ≤ 8 ∧ Q (.bl (!(getT (rowN xs) k).isSome)) H2
/-- d[y] = v -/
def sNPut (K : PySem.W.Frag) (w : World) (td ty tv : TE) : TS := fun D σ H => tv σ H fun v H1 => td σ H1 fun x H2 => ty σ H2 fun y H3 => ∃ a xs k b, x = .ref a ∧ y = .ref b ∧ H3 a = some (DnO w a xs) ∧ NAt K H3 w a xs ∧ RkN K H3 k (.ref b) ∧ k.depth ≤ 8 ∧ xs.length < sizeLine ∧ D.nx σ (upd H3 a (DnO w a (putA xs k b v)))
/-- {k: v} -/
def tNOne (K : PySem.W.Frag) (w : World) (tk tv : TE) : TE := fun σ H Q => ∀ p, H p = none → tk σ (upd H p (DnO w p [])) fun x H1 => tv σ H1 fun v H2 => ∃ k b, x = .ref b ∧ H2 p = some (DnO w p []) ∧ RkN K H2 k (.ref b) ∧ k.depth ≤ 8 ∧ Q (.ref p) (upd H2 p (DnO w p [(k, b, v)]))
section
variable {X : Cx} {o i value : Expr} {pos pos' : Pos} {td ty tv tk : TE}
theorem pe_nget (hu : X.A.units + 16 < cLine) (ho : PE X o td) (hi : PE X i ty) (hs : NoSl i) : PE X (.Subscript o i pos) (tNGet X.K X.w td ty) := ⟨fun pins s σ H Q I h => by
  refine subD_of PySem.F.slot_dict_getitem.lookup hs (thn (ho.run pins s σ H _ I h) fun u s1 ⟨x, H1, I1, rx, q1⟩ => thn (hi.run pins s1 σ H1 _ I1 q1) fun iv s2 ⟨y, H2, I2, ry, a, xs, k, b, v, ex, ey, n, hk, dk, hg, q2⟩ => ?_)
  subst ex ey
  cases (show u = Value.ref a from rx)
  cases (show iv = Value.ref b from ry)
  obtain ⟨_, _, qs, r, dd⟩ := dn_at I2 n
  refine ⟨dd.typeIs, ?_⟩
  rcases r.has k with ⟨z, _⟩ | ⟨v', p, z, _, hp, rv⟩
  · rw [z] at hg
    cases hg
  · rw [z] at hg
    cases hg
    exact wpAny_getItem_heap (key_room hu) ⟨key_is I2 _ _ _ hk rfl, dk⟩ dd hp ⟨v, H2, I2.tok _, rv, q2⟩⟩
theorem pc_nnot (hu : X.A.units + 16 < cLine) (hi : PE X i ty) (ho : PE X o td) : PC X .NotIn i o (tNNotIn X.K X.w ty td) := ⟨fun pins s σ H Q I h => by
  refine thn (hi.run pins s σ H _ I h) fun iv s1 ⟨y, H1, I1, ry, q1⟩ => thn (ho.run pins s1 σ H1 _ I1 q1) fun u s2 ⟨x, H2, I2, rx, a, xs, k, b, ex, ey, n, hk, dk, q2⟩ => ?_
  subst ex ey
  cases (show u = Value.ref a from rx)
  cases (show iv = Value.ref b from ry)
  obtain ⟨_, hd, qs, r, dd⟩ := dn_at I2 n
  refine wpAny_notIn_heap (key_room hu) ⟨key_is I2 _ _ _ hk rfl, dk⟩ hd dd ?_
  rcases r.has k with ⟨z, _, z2⟩ | ⟨v', p, z, _, z2, _⟩ <;> rw [z] at q2 <;> rw [z2] <;> exact ⟨.bl _, H2, I2.tok _, rfl, q2⟩⟩
theorem ps_nput (hu : X.A.units + 16 < cLine) (ho : PE X o td) (hi : PE X i ty) (hv : PE X value tv) (hs : swapsWith value (some (.Subscript o i pos')) pos.line X.env = pure false) : PS X (.Assign [.Subscript o i pos'] value pos) (sNPut X.K X.w td ty tv) := ⟨fun pins s σ H D I h => by
  refine wpAny_Assign_Subscript (thn (hv.run pins s σ H _ I h) fun r s1 ⟨v, H1, I1, rv, q1⟩ => thn (ho.run pins s1 σ H1 _ I1 q1) fun u s2 ⟨x, H2, I2, rx, q2⟩ => thn (hi.run pins s2 σ H2 _ I2 q2) fun iv s3 ⟨y, H3, I3, ry, a, xs, k, b, ex, ey, e, n, hk, dk, few, q3⟩ => ?_) hs
  subst ex ey
  cases (show u = Value.ref a from rx)
  cases (show iv = Value.ref b from ry)
  obtain ⟨z, hd, qs, rel, dd⟩ := dn_at I3 n
  have zq : qs.length ≤ sizeLine := by rw [← Paired.length rel]; exact z
  exact wpAny_setItem_heap (hsz := zq) (key_room hu) ⟨key_is I3 _ _ _ hk rfl, dk⟩ dd fun h' dd' hs' => ⟨σ, _, dn_put I3 e (Nat.le_trans (putA_len ..) few) hd (rel.put k b rv) dd' hs', q3⟩⟩
/-- an empty dict just laid -/
theorem dn_new {pins : List (Addr × Obj)} {σ : L2.St} {H : Hp} {s : Shared} (I : L2.Inv X pins σ H s) : L2.Inv X pins σ (upd H s.heap.objs.size (DnO X.w s.heap.objs.size [])) { s with heap := s.heap.push { cls := .type "dict", data := .dict #[] } } :=
  I.laid (t' := s.toks) (fun _ _ q => Heap.get?_push_of_some _ q) (Nat.le_refl _)
    ⟨⟨Nat.zero_le _, beq_eq_false_iff_ne.mpr (Ne.symm (Nat.ne_of_lt I.big)), [], .nil, _, #[], 0, Heap.get?_push_size _ rfl, ⟨rfl, rfl, rfl⟩, rfl, rfl, List.nodup_nil⟩, ⟨_, Heap.get?_push_size _ rfl⟩, dnO_stay rfl⟩
theorem pe_none1 {k v : Expr} (hu : X.A.units + 16 < cLine) (hk : PE X k tk) (hv : PE X v tv) : PE X (.Dict [some k] [v] pos) (tNOne X.K X.w tk tv) := ⟨fun pins s σ H Q I h => by
  refine wpAny_Dict_any rfl rfl (List.cons_ne_nil _ _) (Nat.le_of_ble_eq_true rfl) (pairTrees_cons_walk (thn (hk.run pins _ σ _ _ (dn_new I) (h _ (I.hok.fresh (Nat.le_refl _)))) fun kv s1 ⟨x, H1, I1, rx, q1⟩ => thn (hv.run pins s1 σ H1 _ I1 q1) fun u s2 ⟨v, H2, I2, rv, c, b, ex, e, hc, dc, q2⟩ => pairTrees_nil_walk ?_))
  subst ex
  cases (show kv = Value.ref b from rx)
  have n : NAt X.K H2 X.w s.heap.objs.size [] := ⟨.inl e, fun _ hx => nomatch hx⟩
  obtain ⟨z, hd, qs, rel, dd⟩ := dn_at I2 n
  have zq : qs.length ≤ sizeLine := by rw [← Paired.length rel]; exact z
  unfold storeAll
  rw [List.forIn_cons]
  refine wpAny_bind (wpAny_bind (wpAny_dictSet_heap (hsz := zq) (knd := nestedKind X.prog X.w) (show X.A.units + 8 < cLine by omega) ⟨key_is I2 _ _ _ hc rfl, dc⟩ dd fun h' dd' hs' => wpAny_pure ?_))
  show wpAny _ _ (forIn [] _ _) _ _ _
  rw [List.forIn_nil]
  exact wpAny_pure ⟨.ref _, _, dn_put I2 e (by rw [sizeLine_eq]; exact Nat.le_of_ble_eq_true rfl) hd (rel.put c b rv) dd' hs', rfl, q2⟩⟩
end
end DL

/-! FK: dicts with nested keys, by data (own work). -/
namespace DL
open PySem L2 PySem.W

/-! ### keys as data -/
mutual
def nkD : NestedKey → D
  | .none => .non
  | .num i => .int i
  | .text s => .str s
  | .tup ks => .tup (nkDs ks)
def nkDs : List NestedKey → List D
  | [] => []
  | k :: ks => nkD k :: nkDs ks
end
section
variable {K : PySem.W.Frag} {F : Hp}
mutual
theorem rk_iff : ∀ (k : NestedKey) (v : V), RkN K F k v ↔ Rp K F (nkD k) v
  | .none, _ => Iff.rfl
  | .num _, _ => Iff.rfl
  | .text _, _ => Iff.rfl
  | .tup ks, v => ⟨fun ⟨a, xs, e, h1, h2⟩ => ⟨a, xs, e, h1, (rks_iff ks xs).mp h2⟩, fun ⟨a, xs, e, h1, h2⟩ => ⟨a, xs, e, h1, (rks_iff ks xs).mpr h2⟩⟩
theorem rks_iff : ∀ (ks : List NestedKey) (vs : List V), RkL K F ks vs ↔ RpL K F (nkDs ks) vs
  | [], _ => Iff.rfl
  | k :: ks, vs => ⟨fun ⟨x, ys, e, h1, h2⟩ => ⟨x, ys, e, (rk_iff k x).mp h1, (rks_iff ks ys).mp h2⟩, fun ⟨x, ys, e, h1, h2⟩ => ⟨x, ys, e, (rk_iff k x).mpr h1, (rks_iff ks ys).mpr h2⟩⟩
end
end
/-- numbers, texts as keys -/
def nmK (ns : List Nat) : NestedKey := .tup (ns.map fun (n : Nat) => .num (n : Int))
def txK (ss : List Str) : NestedKey := .tup (ss.map .text)
theorem nkDs_map {α : Type} {f : α → NestedKey} : ∀ xs : List α, nkDs (xs.map f) = xs.map fun x => nkD (f x)
  | [] => rfl
  | x :: xs => by rw [List.map_cons, nkDs, nkDs_map xs, List.map_cons]
theorem nkD_nm (ns : List Nat) : nkD (nmK ns) = .tup (nmD ns) := by
  unfold nmK
  rw [nkD, nkDs_map]
  rfl
theorem nkD_tx (ss : List Str) : nkD (txK ss) = .tup (stD ss) := by
  unfold txK
  rw [nkD, nkDs_map]
  rfl
theorem dep_flat {α : Type} {f : α → NestedKey} (h : ∀ x, (f x).depth = 0) : ∀ xs : List α, NestedKey.depthAll (xs.map f) = 0
  | [] => rfl
  | x :: xs => by rw [List.map_cons, NestedKey.depthAll, h x, dep_flat h xs]; rfl
theorem dep_nm (ns : List Nat) : (nmK ns).depth = 1 := by
  unfold nmK
  rw [NestedKey.depth, dep_flat fun _ => rfl]
theorem dep_tx (ss : List Str) : (txK ss).depth = 1 := by
  unfold txK
  rw [NestedKey.depth, dep_flat fun _ => rfl]
theorem nm_inj {a b : List Nat} (h : nmK a = nmK b) : a = b := by
  unfold nmK at h
  injection h with h
  refine List.map_inj_right (fun x y e => ?_) |>.mp h
  injection e with e
  exact Int.ofNat.inj e
theorem tx_inj {a b : List Str} (h : txK a = txK b) : a = b := by
  unfold txK at h
  injection h with h
  refine List.map_inj_right (fun x y e => ?_) |>.mp h
  injection e

/-! ### rows -/
section
variable {K : PySem.W.Frag} {F : Hp}
theorem rpn_pt : ∀ {ds : List (NestedKey × D)} {xs : List (NestedKey × Addr × V)}, RpN K F ds xs → PT (Rp K F) ds (rowN xs)
  | [], xs, h => by rw [show xs = [] from h]; rfl
  | (k, d) :: ds, xs, h => by
    obtain ⟨b, x, ys, rfl, _, h1, h2⟩ := h
    exact ⟨x, rowN ys, rfl, h1, rpn_pt h2⟩
theorem rpn_keys : ∀ {ds : List (NestedKey × D)} {xs : List (NestedKey × Addr × V)}, RpN K F ds xs → ∀ x ∈ xs, RkN K F x.1 (.ref x.2.1) ∧ x.1.depth ≤ 8
  | [], xs, h => by rw [show xs = [] from h]; exact fun _ hx => nomatch hx
  | (k, d) :: ds, xs, h => by
    obtain ⟨b, x, ys, rfl, h0, h1, h2⟩ := h
    intro y hy
    rcases List.mem_cons.mp hy with rfl | hy
    · exact h0
    · exact rpn_keys h2 y hy
theorem rpn_mk : ∀ {ds : List (NestedKey × D)} {xs : List (NestedKey × Addr × V)}, PT (Rp K F) ds (rowN xs) → (∀ x ∈ xs, RkN K F x.1 (.ref x.2.1) ∧ x.1.depth ≤ 8) → RpN K F ds xs
  | [], [], _, _ => rfl
  | [], x :: xs, h, _ => by cases (show rowN (x :: xs) = [] from h)
  | (k, d) :: ds, [], h, _ => by
    obtain ⟨x, ys, e, _⟩ := h
    cases e
  | (k, d) :: ds, (k', b, v) :: xs, h, q => by
    obtain ⟨x, ys, e, h1, h2⟩ := h
    cases e
    exact ⟨b, v, xs, rfl, q _ List.mem_cons_self, h1, rpn_mk h2 fun y hy => q y (List.mem_cons_of_mem _ hy)⟩
theorem rpn_put {ds : List (NestedKey × D)} {xs : List (NestedKey × Addr × V)} (h : RpN K F ds xs) {k : NestedKey} {b : Addr} {d : D} {v : V} (hk : RkN K F k (.ref b)) (dk : k.depth ≤ 8) (hv : Rp K F d v) : RpN K F (putT ds k d) (putA xs k b v) := by
  refine rpn_mk (by rw [rowN_put]; exact (rpn_pt h).put k hv) fun x hx => ?_
  rcases putA_mem hx with ⟨e1, e2⟩ | ⟨y, hy, e1, e2⟩
  · rw [e1, e2]
    exact ⟨hk, dk⟩
  · rw [e1, e2]
    exact rpn_keys h y hy
theorem rpn_len {ds : List (NestedKey × D)} {xs : List (NestedKey × Addr × V)} (h : RpN K F ds xs) : xs.length = ds.length := by
  have := (rpn_pt h).len
  unfold rowN at this
  rwa [List.length_map] at this
end

/-! ### read and written -/
/-- w is a dict of ds with nested keys; b: viewed -/
inductive Dn (wd : World) (ka : Cells) : W → List (NestedKey × D) → Bool → Prop where
  | v {ds : List (NestedKey × D)} : Dn wd ka (.val (.din wd ds)) ds false
  | w {ds : List (NestedKey × D)} : Dn wd ka (.vw (.din wd ds)) ds true
  | ce {a : Addr} {ds : List (NestedKey × D)} (j : Nat) (h : ka[j]? = some (a, .din wd ds)) : Dn wd ka (.val (.adr a)) ds false
section
variable {wd : World} {K : PySem.W.Frag} {B B' F F' F0 : Hp} {ro ro' : Ro} {ka k1 k2 k3 kr : Cells} {ta : List (V × W)} {sg sg' : L2.St} {H H' : Hp} {te tf tg td ty tk tv : TE} {w x y z : W} {n m : Nd} {a : Addr} {b : Bool} {De : Ends} {t u : TS} {ds : List (NestedKey × D)} {k : NestedKey} {ks : List NestedKey} {d : D}
theorem Dn.get {v : V} (l : Dn wd ka w ds b) (e : EnF K B F ro ka ta sg H) (h : WOk K B F v w) : ∃ a xs, v = .ref a ∧ NAt K H wd a xs ∧ RpN K (if b then uni B F else F) ds xs := by
  cases l with
  | v =>
    obtain ⟨a, xs, rfl, h1, h2⟩ := h
    exact ⟨a, xs, rfl, ⟨e.fz.rd e.nz h1, fun x hx => ⟨RkN.mono e.fz e.nz _ _ (rpn_keys h2 x hx).1, (rpn_keys h2 x hx).2⟩⟩, h2⟩
  | w =>
    obtain ⟨a, xs, rfl, h1, h2⟩ := h
    have z := uni_exz e.fz e.fr
    have nz := uni_nz (B := B) e.nz
    exact ⟨a, xs, rfl, ⟨z.rd nz h1, fun x hx => ⟨RkN.mono z nz _ _ (rpn_keys h2 x hx).1, (rpn_keys h2 x hx).2⟩⟩, h2⟩
  | ce j hj =>
    obtain rfl : v = .ref _ := h
    obtain ⟨_, _, xs, h1, h2⟩ := e.ce _ (List.mem_of_getElem? hj)
    exact ⟨_, xs, rfl, ⟨.inl h1, fun x hx => ⟨RkN.mono e.fz e.nz _ _ (rpn_keys h2 x hx).1, (rpn_keys h2 x hx).2⟩⟩, h2⟩
/-- a tuple held as data is the key, at its place -/
theorem EnF.nk (e : EnF K B F ro ka ta sg H) {v : V} (h : WOk K B F v (.val (nkD (.tup ks)))) : ∃ c, v = .ref c ∧ RkN K F (.tup ks) (.ref c) ∧ RkN K H (.tup ks) (.ref c) := by
  have q := (rk_iff (.tup ks) v).mpr h
  obtain ⟨c, xs, rfl, h1, h2⟩ := q
  exact ⟨c, rfl, (rk_iff _ _).mpr h, RkN.mono e.fz e.nz _ _ ((rk_iff _ _).mpr h)⟩
/-- d[key] -/
theorem ev_nget (h : EvD K td ro ka w k1) (h2 : EvD K ty ro k1 (.val (nkD (.tup ks))) k2) (l : Dn wd k2 w ds b) (dk : (NestedKey.tup ks).depth ≤ 8) (hd : getT ds (.tup ks) = some d) : EvD K (tNGet K wd td ty) ro ka (part b d) k2 := fun B F0 ta sg H Q e q =>
  h B F0 ta sg H _ e fun u H1 e1 => h2 B F0 _ sg H1 _ e1 fun v H2 ⟨F, g, ef⟩ => by
    obtain ⟨c, rfl, _, hk⟩ := ef.nk (ef.tm _ List.mem_cons_self)
    obtain ⟨a, xs, rfl, h3, h4⟩ := l.get ef (ef.tm (u, w) (List.mem_cons_of_mem _ List.mem_cons_self))
    obtain ⟨x, hx, rx⟩ := ((rpn_pt h4).get (.tup ks)).2 d hd
    refine ⟨a, xs, .tup ks, c, x, rfl, rfl, h3, hk, dk, hx, q _ _ ⟨F, g, ?_⟩⟩
    exact (ef.held (ta' := ta) fun p hp => List.mem_cons_of_mem _ (List.mem_cons_of_mem _ hp)).push (wok_part b rx)
theorem ev_ngetV (h : EvD K td ro ka w k1) (h2 : EvD K ty ro k1 (.val (nkD (.tup ks))) k2) (l : Dn wd k2 w ds false) (dk : (NestedKey.tup ks).depth ≤ 8) (hd : getT ds (.tup ks) = some d) : EvD K (tNGet K wd td ty) ro ka (.val d) k2 := ev_nget h h2 l dk hd
theorem isSome_rp {xs : List (NestedKey × V)} (h : PT (Rp K F) ds xs) (k : NestedKey) : (getT xs k).isSome = (getT ds k).isSome := by
  cases q : getT ds k with
  | none =>
    rw [(h.get k).1 q]
    rfl
  | some d =>
    obtain ⟨x, hx, _⟩ := (h.get k).2 d q
    rw [hx]
    rfl
theorem ev_nni (h : EvD K ty ro ka (.val (nkD (.tup ks))) k1) (h2 : EvD K td ro k1 w k2) (l : Dn wd k2 w ds b) (dk : (NestedKey.tup ks).depth ≤ 8) : EvD K (tNNotIn K wd ty td) ro ka (.val (.bl (!(getT ds (.tup ks)).isSome))) k2 := fun B F0 ta sg H Q e q =>
  h B F0 ta sg H _ e fun u H1 e1 => h2 B F0 _ sg H1 _ e1 fun v H2 ⟨F, g, ef⟩ => by
    obtain ⟨c, rfl, _, hk⟩ := ef.nk (ef.tm (u, _) (List.mem_cons_of_mem _ List.mem_cons_self))
    obtain ⟨a, xs, rfl, h3, h4⟩ := l.get ef (ef.tm (v, w) List.mem_cons_self)
    refine ⟨a, xs, .tup ks, c, rfl, rfl, h3, hk, dk, q _ _ ?_⟩
    rw [isSome_rp (rpn_pt h4)]
    exact (show En K B F0 ro k2 ta sg H2 from ⟨F, g, ef.held (ta' := ta) fun p hp => List.mem_cons_of_mem _ (List.mem_cons_of_mem _ hp)⟩).push_imm fun _ => rfl
/-- d[key] = v -/
theorem g_nput {j : Nat} (hv : EvD K tv ro ka (.val d) k1) (ho : EvD K td ro k1 (.val (.adr a)) k2) (hi : EvD K ty ro k2 (.val (nkD (.tup ks))) k3) (hj : k3[j]? = some (a, .din wd ds)) (dk : (NestedKey.tup ks).depth ≤ 8) (hz : ds.length < 100000)
    (q : Gp K B F0 ta De.nx ro (k3.set j (a, .din wd (putT ds (.tup ks) d)))) : Gp K B F0 ta (sNPut K wd td ty tv De) ro ka := fun sg H e =>
  hv B F0 ta sg H _ e fun v H1 e1 => ho B F0 _ sg H1 _ e1 fun u H2 e2 => hi B F0 _ sg H2 _ e2 fun y H3 e3 => by
    have hu := e3.tm_adr (v := u) (a := a) (List.mem_cons_of_mem _ List.mem_cons_self)
    subst hu
    obtain ⟨F, g, ef, xs, hx, rx⟩ := e3.cellAt hj
    obtain ⟨c, rfl, hk, hk2⟩ := ef.nk (ef.tm (y, _) List.mem_cons_self)
    have hvd := ef.tm (v, .val d) (List.mem_cons_of_mem _ (List.mem_cons_of_mem _ List.mem_cons_self))
    have n : NAt K H3 wd a xs := ⟨.inl hx, fun x hx => ⟨RkN.mono ef.fz ef.nz _ _ (rpn_keys rx x hx).1, (rpn_keys rx x hx).2⟩⟩
    refine ⟨a, xs, .tup ks, c, rfl, rfl, hx, n, hk2, dk, ?_, q _ _ ⟨F, g, ?_⟩⟩
    · rw [rpn_len rx]
      exact Nat.lt_of_lt_of_le hz (by decide : 100000 ≤ sizeLine)
    · exact (ef.write (o := DnO wd a (putA xs (.tup ks) c v)) (n' := .din wd (putT ds (.tup ks) d)) hj ⟨_, upd_same, rpn_put rx hk dk hvd⟩).held fun p hp => List.mem_cons_of_mem _ (List.mem_cons_of_mem _ (List.mem_cons_of_mem _ hp))
/-- an expression that makes a new cell, as one that comes back with its place -/
theorem EvN.adr (h : EvN K te ro ka n k1) : EvR K te ro ka fun w k => ∃ c, w = .val (.adr c) ∧ k = k1 ++ [(c, n)] := fun B F0 ta sg H Q e q =>
  h B F0 ta sg H Q e fun c H' e1 => q _ _ _ _ ⟨c, rfl, rfl⟩ (e1.tmA c)
/-- d[key] = a new cell -/
theorem g_nputN {j : Nat} (hv : EvN K tv ro ka n k1) (ho : ∀ c, EvD K td ro (k1 ++ [(c, n)]) (.val (.adr a)) (k1 ++ [(c, n)])) (hi : ∀ c, EvD K ty ro (k1 ++ [(c, n)]) (.val (nkD (.tup ks))) (k1 ++ [(c, n)])) (hj : ∀ c, (k1 ++ [(c, n)])[j]? = some (a, .din wd ds)) (dk : (NestedKey.tup ks).depth ≤ 8) (hz : ds.length < 100000)
    (q : ∀ c, Gp K B F0 ta De.nx ro ((k1 ++ [(c, n)]).set j (a, .din wd (putT ds (.tup ks) (.adr c))))) : Gp K B F0 ta (sNPut K wd td ty tv De) ro ka := fun sg H e =>
  hv B F0 ta sg H _ e fun c H1 e1 => g_nput (tv := tC (.ref c)) (ka := k1 ++ [(c, n)]) (De := De) ev_ref (ho c) (hi c) (hj c) dk hz (q c) sg H1 e1
theorem q_nputN {j : Nat} (hv : EvN K tv ro ka n k1) (ho : ∀ c, EvD K td ro (k1 ++ [(c, n)]) (.val (.adr a)) (k1 ++ [(c, n)])) (hi : ∀ c, EvD K ty ro (k1 ++ [(c, n)]) (.val (nkD (.tup ks))) (k1 ++ [(c, n)])) (hj : ∀ c, (k1 ++ [(c, n)])[j]? = some (a, .din wd ds)) (dk : (NestedKey.tup ks).depth ≤ 8) (hz : ds.length < 100000)
    (q : ∀ c, Gp K B F0 ta (u De) ro ((k1 ++ [(c, n)]).set j (a, .din wd (putT ds (.tup ks) (.adr c))))) : Gp K B F0 ta (tSeq (sNPut K wd td ty tv) u De) ro ka := g_nputN (De := { De with nx := u De }) hv ho hi hj dk hz q
/-- {key: a new cell} -/
theorem evr_noneN (hk : ∀ p, EvD K tk ro (ka ++ [(p, .din wd [])]) (.val (nkD (.tup ks))) (ka ++ [(p, .din wd [])])) (hv : ∀ p, EvN K tv ro (ka ++ [(p, .din wd [])]) n (ka ++ [(p, .din wd [])])) (dk : (NestedKey.tup ks).depth ≤ 8) :
    EvR K (tNOne K wd tk tv) ro ka fun w k => ∃ p c, w = .val (.adr p) ∧ k = ka ++ [(p, .din wd [(.tup ks, .adr c)]), (c, n)] := fun B F0 ta sg H Q e q => fun p hp => by
  obtain ⟨F, g, e⟩ := e
  have e1 : En K B F0 ro (ka ++ [(p, .din wd [])]) ta sg _ := ⟨F, g, e.cell (o := DnO wd p []) hp (n := .din wd []) ⟨[], upd_same, rfl⟩⟩
  refine hk p B F0 ta sg _ _ e1 fun y H1 e2 => hv p B F0 _ sg H1 _ e2 fun c H2 e3 => ?_
  have hj : ((ka ++ [(p, Nd.din wd [])]) ++ [(c, n)])[ka.length]? = some (p, .din wd []) := by rw [List.append_assoc, List.getElem?_append_right (Nat.le_refl _), Nat.sub_self]; rfl
  obtain ⟨F2, g2, ef, xs, hx, rx⟩ := e3.cellAt hj
  obtain ⟨b, rfl, hk1, hk2⟩ := ef.nk (ef.tm (y, _) List.mem_cons_self)
  refine ⟨.tup ks, b, rfl, ?_, hk2, dk, q _ _ _ _ ⟨p, c, rfl, rfl⟩ ?_⟩
  · rw [show xs = [] from rx] at hx
    exact hx
  · have e4 := (ef.write (o := DnO wd p [(.tup ks, b, .ref c)]) (n' := .din wd [(.tup ks, .adr c)]) hj ⟨_, upd_same, b, .ref c, [], rfl, ⟨hk1, dk⟩, rfl, rfl⟩).held (ta' := ta) fun q hq => List.mem_cons_of_mem _ hq
    have hset : ((ka ++ [(p, Nd.din wd [])]) ++ [(c, n)]).set ka.length (p, .din wd [(.tup ks, .adr c)]) = ka ++ [(p, .din wd [(.tup ks, .adr c)]), (c, n)] := by
      rw [List.append_assoc, List.set_append_right _ _ (Nat.le_refl _), Nat.sub_self]
      rfl
    rw [hset] at e4
    exact En.tmA ⟨F2, g2, e4⟩ p
/-- a dict of nested keys, frozen -/
theorem En.freeze_n (e : En K B F0 ro (ka ++ [(a, .din wd ds)]) ta sg H) : En K B F0 ro ka ((.ref a, .val (.din wd ds)) :: ta) sg H := by
  obtain ⟨F, g, e⟩ := e
  obtain ⟨fa, ba, xs, ha, rl⟩ := e.ce (a, .din wd ds) (by simp)
  have gg : Gr B F (upd F a (DnO wd a xs)) := ⟨Sub.new fa, fun b h1 h2 => by
    have ne : b ≠ a := fun q => h2 (q ▸ ba)
    rw [upd_ne ne]
    exact h1⟩
  have nd2 := e.nd
  rw [List.map_append, List.nodup_append] at nd2
  refine ⟨_, g.trans gg, ⟨fun b u h => ?_, fun b u h => ?_, e.fr, nd2.1, fun q hq => ?_, e.ln, fun i w h => ?_, fun q hq => ?_⟩⟩
  · by_cases hb : b = a
    · subst hb; rw [upd_same] at h; cases h; rfl
    · rw [upd_ne hb] at h; exact e.nz b u h
  · by_cases hb : b = a
    · subst hb; rw [upd_same] at h; cases h; exact .inl ha
    · rw [upd_ne hb] at h; exact e.fz b u h
  · obtain ⟨h1, h2, h3⟩ := e.ce q (List.mem_append_left _ hq)
    have nq : q.1 ≠ a := fun z => nd2.2.2 q.1 (List.mem_map.mpr ⟨q, hq, rfl⟩) a (by simp) z
    exact ⟨by rw [upd_ne nq]; exact h1, h2, ndok_gr e.nz gg h3⟩
  · obtain ⟨v, h1, h2⟩ := e.sl i w h
    exact ⟨v, h1, wok_gr e.nz gg h2⟩
  · rcases List.mem_cons.mp hq with rfl | hq
    · exact ⟨a, xs, rfl, .inl upd_same, RpN.mono gg.sub.exz e.nz _ _ rl⟩
    · exact wok_gr e.nz gg (e.tm q hq)
theorem EvN.din (h : EvN K te ro ka (.din wd ds) k1) : EvD K te ro ka (.val (.din wd ds)) k1 := fun B F0 ta sg H Q e q => h B F0 ta sg H Q e fun a H1 e1 => q _ _ e1.freeze_n
end
end DL

/-! FL: searches by levels in plain Lean; sub-rows; what a machine has begun (own work). -/
namespace DL
open PySem L2 PySem.W

/-! ### sub-rows -/
def subs {α : Type} : List α → List (List α)
  | [] => [[]]
  | x :: xs => subs xs ++ (subs xs).map (x :: ·)
theorem subs_len {α : Type} : ∀ xs : List α, (subs xs).length = 2 ^ xs.length
  | [] => rfl
  | x :: xs => by
    rw [subs, List.length_append, List.length_map, subs_len xs, List.length_cons, Nat.pow_succ]
    omega
theorem flt_subs {α : Type} (p : α → Bool) : ∀ xs : List α, xs.filter p ∈ subs xs
  | [] => List.mem_singleton.mpr rfl
  | x :: xs => by
    rw [subs, List.filter_cons]
    split
    · exact List.mem_append_right _ (List.mem_map.mpr ⟨_, flt_subs p xs, rfl⟩)
    · exact List.mem_append_left _ (flt_subs p xs)
/-- different things out of a row are no more than it -/
theorem nd_sub {α : Type} [DecidableEq α] : ∀ {xs ys : List α}, xs.Nodup → (∀ x ∈ xs, x ∈ ys) → xs.length ≤ ys.length
  | [], _, _, _ => Nat.zero_le _
  | x :: xs, ys, hn, h => by
    have hx := h x List.mem_cons_self
    obtain ⟨h1, h2⟩ := List.nodup_cons.mp hn
    have := nd_sub (ys := ys.erase x) h2 fun y hy => (List.mem_erase_of_ne fun e => by subst e; exact h1 hy).mpr (h y (List.mem_cons_of_mem _ hy))
    rw [List.length_erase_of_mem hx] at this
    have := List.length_pos_of_mem hx
    rw [List.length_cons]
    omega

/-! ### ways along edges that have names -/
section
variable {α : Type} [DecidableEq α]
/-- from s by these names to v -/
inductive Pt (sc : α → List (Str × α)) (s : α) : List Str → α → Prop where
  | nil : Pt sc s [] s
  | snoc {ls : List Str} {x : α} {e : Str × α} (h : Pt sc s ls x) (he : e ∈ sc x) : Pt sc s (ls ++ [e.1]) e.2
/-- a search: the things met, each by a way; the first `at` are done, of the next the edges E -/
structure BIn (sc : α → List (Str × α)) (s : α) (at_ : Nat) (E : List (Str × α)) (qs : List (α × List Str)) : Prop where
  nd : (qs.map (·.1)).Nodup
  ini : qs[0]? = some (s, [])
  pt : ∀ q ∈ qs, Pt sc s q.2 q.1
  mono : ∀ (i j : Nat) (p q : α × List Str), i ≤ j → qs[i]? = some p → qs[j]? = some q → p.2.length ≤ q.2.length
  lev : ∀ c, qs[at_]? = some c → ∀ q ∈ qs, q.2.length ≤ c.2.length + 1
  cl : ∀ (i : Nat) (c : α × List Str), i < at_ → qs[i]? = some c → ∀ e ∈ sc c.1, ∃ q ∈ qs, q.1 = e.2 ∧ q.2.length ≤ c.2.length + 1
  cE : ∀ c, qs[at_]? = some c → ∀ e ∈ E, ∃ q ∈ qs, q.1 = e.2 ∧ q.2.length ≤ c.2.length + 1
variable {sc : α → List (Str × α)} {s : α} {at_ : Nat} {E : List (Str × α)} {qs : List (α × List Str)}
theorem BIn.start (sc : α → List (Str × α)) (s : α) : BIn sc s 0 [] [(s, [])] where
  nd := by simp
  ini := rfl
  pt := fun q hq => by
    rw [List.mem_singleton.mp hq]
    exact .nil
  mono := fun i j p q _ hp hq => by
    have h1 := List.mem_of_getElem? hp
    have h2 := List.mem_of_getElem? hq
    rw [List.mem_singleton.mp h1, List.mem_singleton.mp h2]
    exact Nat.le_refl _
  lev := fun c hc q hq => by
    rw [List.mem_singleton.mp hq]
    exact Nat.zero_le _
  cl := fun i c h => by omega
  cE := fun c _ e he => nomatch he
/-- an edge to what was met -/
theorem BIn.old (b : BIn sc s at_ E qs) {e : Str × α} (h : e.2 ∈ qs.map (·.1)) : BIn sc s at_ (E ++ [e]) qs := { b with
  cE := fun c hc e' he => by
    rcases List.mem_append.mp he with he | he
    · exact b.cE c hc e' he
    · rw [List.mem_singleton.mp he]
      obtain ⟨q, hq, e1⟩ := List.mem_map.mp h
      exact ⟨q, hq, e1, b.lev c hc q hq⟩ }
/-- an edge to a new thing -/
theorem BIn.new (b : BIn sc s at_ E qs) {c : α × List Str} (hc : qs[at_]? = some c) {e : Str × α} (he : e ∈ sc c.1) (h : e.2 ∉ qs.map (·.1)) : BIn sc s at_ (E ++ [e]) (qs ++ [(e.2, c.2 ++ [e.1])]) := by
  have hlt : at_ < qs.length := (List.getElem?_eq_some_iff.mp hc).1
  have old : ∀ {i : Nat} {x : α × List Str}, i < qs.length → (qs ++ [(e.2, c.2 ++ [e.1])])[i]? = some x → qs[i]? = some x := fun hi hx => by rwa [List.getElem?_append_left hi] at hx
  have hc' : ∀ x, (qs ++ [(e.2, c.2 ++ [e.1])])[at_]? = some x → x = c := fun x hx => by
    have := old hlt hx
    rw [hc] at this
    exact (Option.some.inj this).symm
  refine ⟨?_, ?_, fun q hq => ?_, fun i j p q hij hp hq => ?_, fun x hx q hq => ?_, fun i x hi hx e' he' => ?_, fun x hx e' he' => ?_⟩
  · rw [List.map_append, List.nodup_append]
    exact ⟨b.nd, by simp, fun x hx y hy => by
      rw [List.map_cons, List.map_nil, List.mem_singleton] at hy
      rintro rfl
      rw [hy] at hx
      exact h hx⟩
  · rw [List.getElem?_append_left (Nat.lt_of_le_of_lt (Nat.zero_le _) hlt)]
    exact b.ini
  · rcases List.mem_append.mp hq with hq | hq
    · exact b.pt q hq
    · rw [List.mem_singleton.mp hq]
      exact .snoc (b.pt c (List.mem_of_getElem? hc)) he
  · have key : ∀ {k : Nat} {x : α × List Str}, (qs ++ [(e.2, c.2 ++ [e.1])])[k]? = some x → (k < qs.length ∧ qs[k]? = some x) ∨ (k = qs.length ∧ x = (e.2, c.2 ++ [e.1])) := fun {k x} hx => by
      by_cases hk : k < qs.length
      · exact .inl ⟨hk, old hk hx⟩
      · have hk2 := (List.getElem?_eq_some_iff.mp hx).1
        rw [List.length_append, List.length_singleton] at hk2
        have hk3 : k = qs.length := by omega
        subst hk3
        rw [List.getElem?_append_right (Nat.le_refl _), Nat.sub_self] at hx
        exact .inr ⟨rfl, (Option.some.inj hx).symm⟩
    rcases key hp with ⟨h1, hp⟩ | ⟨h1, rfl⟩ <;> rcases key hq with ⟨h2, hq⟩ | ⟨h2, rfl⟩
    · exact b.mono i j p q hij hp hq
    · have := b.lev c hc p (List.mem_of_getElem? hp)
      rw [List.length_append, List.length_singleton]
      exact this
    · omega
    · exact Nat.le_refl _
  · rw [hc' x hx]
    rcases List.mem_append.mp hq with hq | hq
    · exact b.lev c hc q hq
    · rw [List.mem_singleton.mp hq, List.length_append]
      exact Nat.le_refl _
  · obtain ⟨q, hq, r⟩ := b.cl i x hi (old (by omega) hx) e' he'
    exact ⟨q, List.mem_append_left _ hq, r⟩
  · rw [hc' x hx]
    rcases List.mem_append.mp he' with he' | he'
    · obtain ⟨q, hq, r⟩ := b.cE c hc e' he'
      exact ⟨q, List.mem_append_left _ hq, r⟩
    · rw [List.mem_singleton.mp he']
      exact ⟨_, List.mem_append_right _ (List.mem_singleton.mpr rfl), rfl, by rw [List.length_append]; exact Nat.le_refl _⟩
/-- all edges of a thing are done -/
theorem BIn.next (b : BIn sc s at_ E qs) (hE : ∀ c, qs[at_]? = some c → ∀ e ∈ sc c.1, e ∈ E) (hlt : at_ < qs.length) : BIn sc s (at_ + 1) [] qs := by
  obtain ⟨c0, hc0⟩ : ∃ c, qs[at_]? = some c := ⟨_, List.getElem?_eq_getElem hlt⟩
  refine { b with lev := fun c hc q hq => ?_, cl := fun i c hi hc e he => ?_, cE := fun c _ e he => nomatch he }
  · have h1 := b.lev c0 hc0 q hq
    have h2 := b.mono at_ (at_ + 1) c0 c (Nat.le_succ _) hc0 hc
    omega
  · rcases Nat.lt_or_ge i at_ with h | h
    · exact b.cl i c h hc e he
    · have : i = at_ := by omega
      subst this
      exact b.cE c hc e (hE c hc e he)
/-- the first thing met of a kind is met by a shortest way -/
theorem BIn.least (b : BIn sc s at_ [] qs) {G : α → Prop} (no : ∀ (i : Nat) (q : α × List Str), i < at_ → qs[i]? = some q → ¬ G q.1) {c : α × List Str} (hc : qs[at_]? = some c) {ls : List Str} {v : α} (hp : Pt sc s ls v) (hg : G v) : c.2.length ≤ ls.length := by
  refine Nat.le_of_not_lt fun lt => ?_
  have key : ∀ (ls : List Str) (v : α), Pt sc s ls v → ls.length < c.2.length → ∃ (i : Nat) (q : α × List Str), i < at_ ∧ qs[i]? = some q ∧ q.1 = v ∧ q.2.length ≤ ls.length := by
    intro ls v hp
    induction hp with
    | nil =>
      intro h
      refine ⟨0, (s, []), Nat.pos_of_ne_zero fun z => ?_, b.ini, rfl, Nat.le_refl _⟩
      subst z
      rw [b.ini] at hc
      cases hc
      exact Nat.lt_irrefl _ h
    | @snoc ls x e _ he ih =>
      intro h
      rw [List.length_append, List.length_singleton] at h ⊢
      obtain ⟨i, q, hi, hq, e1, e2⟩ := ih (by omega)
      obtain ⟨q', hq', e3, e4⟩ := b.cl i q hi hq e (e1 ▸ he)
      obtain ⟨j, hj⟩ := List.getElem?_of_mem hq'
      refine ⟨j, q', Nat.lt_of_not_le fun z => ?_, hj, e3, by omega⟩
      have := b.mono at_ j c q' z hc hj
      omega
  obtain ⟨i, q, hi, hq, e1, _⟩ := key ls v hp lt
  exact no i q hi hq (e1 ▸ hg)
/-- when all is done, all that can be met was met -/
theorem BIn.all (b : BIn sc s at_ [] qs) (h : qs.length ≤ at_) {ls : List Str} {v : α} (hp : Pt sc s ls v) : v ∈ qs.map (·.1) := by
  induction hp with
  | nil => exact List.mem_map.mpr ⟨_, List.mem_of_getElem? b.ini, rfl⟩
  | @snoc ls x e _ he ih =>
    obtain ⟨q, hq, rfl⟩ := List.mem_map.mp ih
    obtain ⟨i, hi⟩ := List.getElem?_of_mem hq
    have := (List.getElem?_eq_some_iff.mp hi).1
    obtain ⟨q', hq', e3, _⟩ := b.cl i q (by omega) hi e he
    exact List.mem_map.mpr ⟨q', hq', e3⟩
/-- things met out of a row: no more than it has -/
theorem BIn.few (b : BIn sc s at_ E qs) {N : List α} (h0 : s ∈ N) (hN : ∀ x ∈ N, ∀ e ∈ sc x, e.2 ∈ N) : qs.length ≤ N.length := by
  have := nd_sub (ys := N) b.nd fun x hx => by
    obtain ⟨q, hq, rfl⟩ := List.mem_map.mp hx
    have := b.pt q hq
    generalize q.1 = v at this
    generalize q.2 = ls at this
    induction this with
    | nil => exact h0
    | snoc _ he ih => exact hN _ ih _ he
  rwa [List.length_map] at this
theorem BIn.at_len (b : BIn sc s at_ E qs) {c : α × List Str} (hc : qs[at_]? = some c) : c.2.length ≤ at_ := by
  have key : ∀ (n : Nat), n ≤ at_ → ∀ c, qs[n]? = some c → c.2.length ≤ n := by
    intro n
    induction n with
    | zero =>
      intro _ c hc
      rw [b.ini] at hc
      cases hc
      exact Nat.le_refl _
    | succ n ih =>
      intro hn c hc
      have pt := b.pt c (List.mem_of_getElem? hc)
      cases e : c.2 with
      | nil => exact Nat.zero_le _
      | cons y ys =>
        have hlt : n + 1 < qs.length := (List.getElem?_eq_some_iff.mp hc).1
        refine Nat.le_of_not_lt fun big => ?_
        -- the way to c has a thing ahead of its last name; it was met at a place below n + 1
        rw [← e] at big
        have last : ∀ (ls : List Str) (v : α), Pt sc s ls v → ls ≠ [] → ∃ x e', e' ∈ sc x ∧ e'.2 = v ∧ ∃ us, Pt sc s us x ∧ ls = us ++ [e'.1] := by
          intro ls v h hne
          cases h with
          | nil => exact absurd rfl hne
          | snoc h he => exact ⟨_, _, he, rfl, _, h, rfl⟩
        obtain ⟨p, hp⟩ : ∃ p, qs[n]? = some p := ⟨_, List.getElem?_eq_getElem (by omega)⟩
        have h1 := ih (by omega) p hp
        obtain ⟨x, e', he', e2, us, hus, e3⟩ := last c.2 c.1 pt (by rw [e]; exact List.cons_ne_nil _ _)
        have hul : us.length + 1 = c.2.length := by rw [e3, List.length_append, List.length_singleton]
        -- all of shorter ways than us.length are among the first n + 1
        have key : ∀ (ls : List Str) (v : α), Pt sc s ls v → ls.length < us.length + 1 → ∃ (i : Nat) (q : α × List Str), i < n + 1 ∧ qs[i]? = some q ∧ q.1 = v ∧ q.2.length ≤ ls.length := by
          intro ls v hp2
          induction hp2 with
          | nil => exact fun _ => ⟨0, (s, []), Nat.succ_pos _, b.ini, rfl, Nat.le_refl _⟩
          | @snoc ls x e _ he ih2 =>
            intro h
            rw [List.length_append, List.length_singleton] at h ⊢
            obtain ⟨i, q, hi, hq, e1, e2⟩ := ih2 (by omega)
            obtain ⟨q', hq', e3, e4⟩ := b.cl i q (by omega) hq e (e1 ▸ he)
            obtain ⟨j, hj⟩ := List.getElem?_of_mem hq'
            refine ⟨j, q', Nat.lt_of_not_le fun z => ?_, hj, e3, by omega⟩
            have := b.mono (n + 1) j c q' z hc hj
            omega
        obtain ⟨i, q, hi, hq, e4, e5⟩ := key us x hus (Nat.lt_succ_self _)
        obtain ⟨q', hq', e6, e7⟩ := b.cl i q (by omega) hq e' (e4 ▸ he')
        have same : q' = c := by
          obtain ⟨j, hj⟩ := List.getElem?_of_mem hq'
          have a1 : (qs.map (·.1))[j]? = some c.1 := by rw [List.getElem?_map, hj]; exact congrArg some (e6.trans e2)
          have a2 : (qs.map (·.1))[n + 1]? = some c.1 := by rw [List.getElem?_map, hc]; rfl
          have := (List.getElem?_inj (List.getElem?_eq_some_iff.mp a1).1 b.nd).mp (a1.trans a2.symm)
          subst this
          rw [hj] at hc
          exact Option.some.inj hc
        subst same
        have h3 := b.mono i n q p (by omega) hq hp
        omega
  exact key at_ (Nat.le_refl _) c hc
end

/-! ### what is begun -/
def begM (m : Mc) (ps : List Nat) (x : Str) : List Nat := ((List.range m.at_.length).filter fun a => decide (a ∈ m.fi) || behM m ps a).filter fun a => tkM m a x
theorem begM_sub (m : Mc) (ps : List Nat) (x : Str) : begM m ps x ∈ subs (List.range m.at_.length) := by
  unfold begM
  rw [List.filter_filter]
  exact flt_subs _ _
theorem begM_len (m : Mc) (ps : List Nat) (x : Str) : (begM m ps x).length ≤ m.at_.length := by
  unfold begM
  exact Nat.le_trans (List.length_filter_le _ _) (Nat.le_trans (List.length_filter_le _ _) (by rw [List.length_range]; exact Nat.le_refl _))
/-- the atoms by which the lane gone last is read -/
def stM (m : Mc) (ls : List Str) : List Nat := ls.foldl (begM m) []
/-- a word that is not empty ends somewhere -/
def shw (m : Mc) (ls : List Str) : Prop := ∃ i, 0 < i ∧ i ≤ ls.length ∧ doneM m (stM m (ls.take i)) = true
theorem shw_nil {m : Mc} : ¬ shw m [] := fun ⟨i, h1, h2, _⟩ => by
  rw [List.length_nil] at h2
  omega
theorem stM_snoc (m : Mc) (ls : List Str) (x : Str) : stM m (ls ++ [x]) = begM m (stM m ls) x := by
  unfold stM
  rw [List.foldl_append]
  rfl
theorem shw_snoc {m : Mc} {ls : List Str} {x : Str} : shw m (ls ++ [x]) ↔ shw m ls ∨ doneM m (begM m (stM m ls) x) = true := by
  constructor
  · rintro ⟨i, h1, h2, h3⟩
    rw [List.length_append, List.length_singleton] at h2
    by_cases hi : i ≤ ls.length
    · rw [List.take_append_of_le_length hi] at h3
      exact .inl ⟨i, h1, hi, h3⟩
    · have : i = (ls ++ [x]).length := by rw [List.length_append, List.length_singleton]; omega
      rw [this, List.take_length, stM_snoc] at h3
      exact .inr h3
  · rintro (⟨i, h1, h2, h3⟩ | h)
    · exact ⟨i, h1, by rw [List.length_append]; omega, by rw [List.take_append_of_le_length h2]; exact h3⟩
    · exact ⟨(ls ++ [x]).length, by rw [List.length_append, List.length_singleton]; omega, Nat.le_refl _, by rw [List.take_length, stM_snoc]; exact h⟩
end DL



namespace K49
open PySem L2 DL PySem.W
abbrev top (i : Nat) : Stmt := PySem.Challenge.pw_alsoshown_k49_gates.main.body.getD i (.Pass ⟨0, 0, 0, 0⟩)
def clsBody : Stmt → List Stmt
  | .ClassDef (body := b) .. => b
  | _ => []
abbrev mth (i j : Nat) : Stmt := (clsBody (top i)).getD j (.Pass ⟨0, 0, 0, 0⟩)
abbrev s_is_name : Stmt := top 23
abbrev s_first_missing : Stmt := top 26
abbrev s_check_lanes : Stmt := top 47
abbrev s_crossed : Stmt := top 17
abbrev s_read_tree : Stmt := top 16
abbrev s_Machine___init : Stmt := mth 14 0
abbrev s_made_machine : Stmt := top 15
abbrev s_Pattern___init : Stmt := mth 55 0
abbrev s_word_pattern : Stmt := top 56
abbrev s_as_pattern : Stmt := top 57
abbrev s_machine_of : Stmt := top 58
abbrev s_Machine_takes : Stmt := mth 14 1
abbrev s_Machine_is_behind : Stmt := mth 14 3
abbrev s_Machine_after : Stmt := mth 14 2
abbrev s_Machine_begun : Stmt := mth 14 4
abbrev s_Machine_is_done : Stmt := mth 14 6
abbrev s_Net___init : Stmt := mth 30 0
abbrev s_Net_posts : Stmt := mth 30 1
abbrev s_Net_lanes : Stmt := mth 30 2
abbrev s_Net_post : Stmt := mth 30 3
abbrev s_Net_lane : Stmt := mth 30 4
abbrev s_Net_start_of : Stmt := mth 30 5
abbrev s_Net_end_of : Stmt := mth 30 6
abbrev s_Net_out_of : Stmt := mth 30 7
abbrev s_Net_copy : Stmt := mth 30 8
abbrev s_Net___neg : Stmt := mth 30 17
abbrev s_Net___sub : Stmt := mth 30 14
abbrev s_law_built : Stmt := top 75
abbrev s_law_ends : Stmt := top 76
abbrev s_law_ways : Stmt := top 77
abbrev s_reached_posts : Stmt := top 33
abbrev s_posts_before : Stmt := top 61
abbrev s_Course___init : Stmt := mth 60 0
abbrev s_lanes_of : Stmt := top 62
abbrev s_check_known : Stmt := top 63
abbrev s_check_used : Stmt := top 64
abbrev s_shortest_run : Stmt := top 65
abbrev s_without : Stmt := top 66
abbrev s_gate : Stmt := top 67
abbrev s_law_cell : Stmt := top 69
abbrev s_law_pool : Stmt := top 70
abbrev s_law_take : Stmt := top 71
abbrev s_law_many : Stmt := top 72
abbrev s_law_mixed : Stmt := top 73
abbrev s_law_line_net : Stmt := top 74
abbrev s_law_course : Stmt := top 78
abbrev s_law_lanes : Stmt := top 79
abbrev s_law_stranger : Stmt := top 80
abbrev s_law_used : Stmt := top 81
abbrev s_law_told : Stmt := top 82
abbrev s_law_free : Stmt := top 83
abbrev s_law_right : Stmt := top 84
abbrev s_law : Stmt := top 85
abbrev s_BadName___init : Stmt := mth 3 0
abbrev s_NameTaken___init : Stmt := mth 4 0
abbrev s_NoPost___init : Stmt := mth 5 0
abbrev s_NoLane___init : Stmt := mth 6 0
abbrev s_NoRun___init : Stmt := mth 11 0
abbrev s_SameLane___init : Stmt := mth 12 0
theorem sc_is_name : FnScope ["word", "sign"] ["word"] (defScope s_is_name) := ⟨rfl, rfl, rfl, by decide +kernel, rfl, by decide +kernel, by decide +kernel⟩
theorem sc_first_missing : FnScope ["names", "known", "name"] ["names", "known"] (defScope s_first_missing) := ⟨rfl, rfl, rfl, by decide +kernel, rfl, by decide +kernel, by decide +kernel⟩
theorem sc_check_lanes : FnScope ["lanes", "lane"] ["lanes"] (defScope s_check_lanes) := ⟨rfl, rfl, rfl, by decide +kernel, rfl, by decide +kernel, by decide +kernel⟩
theorem sc_crossed : FnScope ["one", "two", "first", "second"] ["one", "two"] (defScope s_crossed) := ⟨rfl, rfl, rfl, by decide +kernel, rfl, by decide +kernel, by decide +kernel⟩
theorem sc_read_tree : FnScope ["tree", "start", "one", "two", "firsts", "lasts"] ["tree", "start"] (defScope s_read_tree) := ⟨rfl, rfl, rfl, by decide +kernel, rfl, by decide +kernel, by decide +kernel⟩
theorem sc_Machine___init : FnScope ["self", "atoms", "firsts", "lasts", "pairs", "is_optional"] ["self", "atoms", "firsts", "lasts", "pairs", "is_optional"] (defScope s_Machine___init) := ⟨rfl, rfl, rfl, by decide +kernel, rfl, by decide +kernel, by decide +kernel⟩
theorem sc_made_machine : FnScope ["tree", "atoms", "firsts", "lasts", "pairs", "is_optional", "pair"] ["tree"] (defScope s_made_machine) := ⟨rfl, rfl, rfl, by decide +kernel, rfl, by decide +kernel, by decide +kernel⟩
theorem sc_Pattern___init : FnScope ["self", "tree"] ["self", "tree"] (defScope s_Pattern___init) := ⟨rfl, rfl, rfl, by decide +kernel, rfl, by decide +kernel, by decide +kernel⟩
theorem sc_word_pattern : FnScope ["names", "tree", "name"] ["names"] (defScope s_word_pattern) := ⟨rfl, rfl, rfl, by decide +kernel, rfl, by decide +kernel, by decide +kernel⟩
theorem sc_as_pattern : FnScope ["thing"] ["thing"] (defScope s_as_pattern) := ⟨rfl, rfl, rfl, by decide +kernel, rfl, by decide +kernel, by decide +kernel⟩
theorem sc_machine_of : FnScope ["thing"] ["thing"] (defScope s_machine_of) := ⟨rfl, rfl, rfl, by decide +kernel, rfl, by decide +kernel, by decide +kernel⟩
theorem sc_Machine_takes : FnScope ["self", "atom", "lane", "is_any", "names"] ["self", "atom", "lane"] (defScope s_Machine_takes) := ⟨rfl, rfl, rfl, by decide +kernel, rfl, by decide +kernel, by decide +kernel⟩
theorem sc_Machine_is_behind : FnScope ["self", "places", "atom", "place"] ["self", "places", "atom"] (defScope s_Machine_is_behind) := ⟨rfl, rfl, rfl, by decide +kernel, rfl, by decide +kernel, by decide +kernel⟩
theorem sc_Machine_after : FnScope ["self", "places", "lane", "size", "atom"] ["self", "places", "lane"] (defScope s_Machine_after) := ⟨rfl, rfl, rfl, by decide +kernel, rfl, by decide +kernel, by decide +kernel⟩
theorem sc_Machine_begun : FnScope ["self", "places", "lane", "size", "atom", "open_atoms"] ["self", "places", "lane"] (defScope s_Machine_begun) := ⟨rfl, rfl, rfl, by decide +kernel, rfl, by decide +kernel, by decide +kernel⟩
theorem sc_Machine_is_done : FnScope ["self", "places", "place"] ["self", "places"] (defScope s_Machine_is_done) := ⟨rfl, rfl, rfl, by decide +kernel, rfl, by decide +kernel, by decide +kernel⟩
theorem sc_Net___init : FnScope ["self", "order", "ends_by_lane", "known", "lane"] ["self", "order", "ends_by_lane"] (defScope s_Net___init) := ⟨rfl, rfl, rfl, by decide +kernel, rfl, by decide +kernel, by decide +kernel⟩
theorem sc_Net_posts : FnScope ["self"] ["self"] (defScope s_Net_posts) := ⟨rfl, rfl, rfl, by decide +kernel, rfl, by decide +kernel, by decide +kernel⟩
theorem sc_Net_lanes : FnScope ["self", "lane"] ["self"] (defScope s_Net_lanes) := ⟨rfl, rfl, rfl, by decide +kernel, rfl, by decide +kernel, by decide +kernel⟩
theorem sc_Net_post : FnScope ["self", "name"] ["self", "name"] (defScope s_Net_post) := ⟨rfl, rfl, rfl, by decide +kernel, rfl, by decide +kernel, by decide +kernel⟩
theorem sc_Net_lane : FnScope ["self", "name", "start", "end", "place"] ["self", "name", "start", "end"] (defScope s_Net_lane) := ⟨rfl, rfl, rfl, by decide +kernel, rfl, by decide +kernel, by decide +kernel⟩
theorem sc_Net_start_of : FnScope ["self", "lane"] ["self", "lane"] (defScope s_Net_start_of) := ⟨rfl, rfl, rfl, by decide +kernel, rfl, by decide +kernel, by decide +kernel⟩
theorem sc_Net_end_of : FnScope ["self", "lane"] ["self", "lane"] (defScope s_Net_end_of) := ⟨rfl, rfl, rfl, by decide +kernel, rfl, by decide +kernel, by decide +kernel⟩
theorem sc_Net_out_of : FnScope ["self", "post", "lane"] ["self", "post"] (defScope s_Net_out_of) := ⟨rfl, rfl, rfl, by decide +kernel, rfl, by decide +kernel, by decide +kernel⟩
theorem sc_Net_copy : FnScope ["self"] ["self"] (defScope s_Net_copy) := ⟨rfl, rfl, rfl, by decide +kernel, rfl, by decide +kernel, by decide +kernel⟩
theorem sc_Net___neg : FnScope ["self", "lane"] ["self"] (defScope s_Net___neg) := ⟨rfl, rfl, rfl, by decide +kernel, rfl, by decide +kernel, by decide +kernel⟩
theorem sc_Net___sub : FnScope ["self", "lanes", "missing", "lane"] ["self", "lanes"] (defScope s_Net___sub) := ⟨rfl, rfl, rfl, by decide +kernel, rfl, by decide +kernel, by decide +kernel⟩
theorem sc_law_built : FnScope ["_law_parts", "_law_net", "_law_post", "_law_lane", "_law_start", "_law_end"] ["_law_parts"] (defScope s_law_built) := ⟨rfl, rfl, rfl, by decide +kernel, rfl, by decide +kernel, by decide +kernel⟩
theorem sc_law_ends : FnScope ["_law_parts", "_law_ends_here", "_law_lane", "_law_start", "_law_end"] ["_law_parts"] (defScope s_law_ends) := ⟨rfl, rfl, rfl, by decide +kernel, rfl, by decide +kernel, by decide +kernel⟩
theorem sc_law_ways : FnScope ["_law_parts", "_law_start", "_law_ways_here", "_law_queue", "_law_at", "_law_lane", "_law_first", "_law_second"] ["_law_parts", "_law_start"] (defScope s_law_ways) := ⟨rfl, rfl, rfl, by decide +kernel, rfl, by decide +kernel, by decide +kernel⟩
theorem sc_reached_posts : FnScope ["net", "start", "found", "going", "lane", "first", "second", "post"] ["net", "start"] (defScope s_reached_posts) := ⟨rfl, rfl, rfl, by decide +kernel, rfl, by decide +kernel, by decide +kernel⟩
theorem sc_posts_before : FnScope ["net", "ends", "found", "end", "post"] ["net", "ends"] (defScope s_posts_before) := ⟨rfl, rfl, rfl, by decide +kernel, rfl, by decide +kernel, by decide +kernel⟩
theorem sc_Course___init : FnScope ["self", "net", "start", "ends", "missing", "post"] ["self", "net", "start", "ends"] (defScope s_Course___init) := ⟨rfl, rfl, rfl, by decide +kernel, rfl, by decide +kernel, by decide +kernel⟩
theorem sc_lanes_of : FnScope ["course", "base", "ahead", "back", "lane"] ["course"] (defScope s_lanes_of) := ⟨rfl, rfl, rfl, by decide +kernel, rfl, by decide +kernel, by decide +kernel⟩
theorem sc_check_known : FnScope ["course", "lanes", "missing"] ["course", "lanes"] (defScope s_check_known) := ⟨rfl, rfl, rfl, by decide +kernel, rfl, by decide +kernel, by decide +kernel⟩
theorem sc_check_used : FnScope ["course", "lanes", "missing"] ["course", "lanes"] (defScope s_check_used) := ⟨rfl, rfl, rfl, by decide +kernel, rfl, by decide +kernel, by decide +kernel⟩
theorem sc_shortest_run : FnScope ["course", "wanted", "machine", "start", "runs", "queue", "at", "post", "places", "done", "lane", "later", "one", "more", "standing"] ["course", "wanted", "machine"] (defScope s_shortest_run) := ⟨rfl, rfl, rfl, by decide +kernel, rfl, by decide +kernel, by decide +kernel⟩
theorem sc_without : FnScope ["course", "lane", "pattern", "machine"] ["course", "lane", "pattern"] (defScope s_without) := ⟨rfl, rfl, rfl, by decide +kernel, rfl, by decide +kernel, by decide +kernel⟩
theorem sc_gate : FnScope ["course", "lane", "other", "rest", "ahead", "behind", "post"] ["course", "lane", "other"] (defScope s_gate) := ⟨rfl, rfl, rfl, by decide +kernel, rfl, by decide +kernel, by decide +kernel⟩
theorem sc_law_cell : FnScope ["_law_script", "_law_k"] ["_law_script", "_law_k"] (defScope s_law_cell) := ⟨rfl, rfl, rfl, by decide +kernel, rfl, by decide +kernel, by decide +kernel⟩
theorem sc_law_pool : FnScope ["_law_cell_here", "_law_folded"] ["_law_cell_here"] (defScope s_law_pool) := ⟨rfl, rfl, rfl, by decide +kernel, rfl, by decide +kernel, by decide +kernel⟩
theorem sc_law_take : FnScope ["_law_pool_here", "_law_many_here", "_law_draw", "_law_mixed_here"] ["_law_pool_here", "_law_many_here"] (defScope s_law_take) := ⟨rfl, rfl, rfl, by decide +kernel, rfl, by decide +kernel, by decide +kernel⟩
theorem sc_law_many : FnScope ["_law_pool_here", "_law_many_here", "_law_letters", "_law_signs", "_law_stem", "_law_k", "_law_place", "_law_told_here", "_law_start", "_law_names", "_law_sign"] ["_law_pool_here", "_law_many_here"] (defScope s_law_many) := ⟨rfl, rfl, rfl, by decide +kernel, rfl, by decide +kernel, by decide +kernel⟩
theorem sc_law_mixed : FnScope ["_law_pool_here", "_law_things", "_law_left", "_law_mixed_here", "_law_k", "_law_at"] ["_law_pool_here", "_law_things"] (defScope s_law_mixed) := ⟨rfl, rfl, rfl, by decide +kernel, rfl, by decide +kernel, by decide +kernel⟩
theorem sc_law_line_net : FnScope ["_law_pool_here", "_law_most", "_law_lanes_here", "_law_posts", "_law_told_here", "_law_name", "_law_found", "_law_k", "_law_first", "_law_second"] ["_law_pool_here", "_law_most", "_law_lanes_here"] (defScope s_law_line_net) := ⟨rfl, rfl, rfl, by decide +kernel, rfl, by decide +kernel, by decide +kernel⟩
theorem sc_law_course : FnScope ["_law_pool_here", "_law_parts", "_law_posts", "_law_start", "_law_many_here", "_law_k", "_law_ends_here"] ["_law_pool_here", "_law_parts"] (defScope s_law_course) := ⟨rfl, rfl, rfl, by decide +kernel, rfl, by decide +kernel, by decide +kernel⟩
theorem sc_law_lanes : FnScope ["_law_parts", "_law_row"] ["_law_parts"] (defScope s_law_lanes) := ⟨rfl, rfl, rfl, by decide +kernel, rfl, by decide +kernel, by decide +kernel⟩
theorem sc_law_stranger : FnScope ["_law_pool_here", "_law_names", "_law_word", "_law_letters", "_law_start", "_law_k", "_law_one"] ["_law_pool_here", "_law_names"] (defScope s_law_stranger) := ⟨rfl, rfl, rfl, by decide +kernel, rfl, by decide +kernel, by decide +kernel⟩
theorem sc_law_used : FnScope ["_law_parts", "_law_start", "_law_ends_here", "_law_ahead", "_law_found", "_law_lane", "_law_first", "_law_second", "_law_behind", "_law_post"] ["_law_parts", "_law_start", "_law_ends_here"] (defScope s_law_used) := ⟨rfl, rfl, rfl, by decide +kernel, rfl, by decide +kernel, by decide +kernel⟩
theorem sc_law_told : FnScope ["_law_course_here", "_law_lane", "_law_other", "e"] ["_law_course_here", "_law_lane", "_law_other"] (defScope s_law_told) := ⟨rfl, rfl, rfl, by decide +kernel, rfl, by decide +kernel, by decide +kernel⟩
theorem sc_law_free : FnScope ["_law_parts", "_law_start", "_law_ends_here", "_law_lane", "_law_other", "_law_row", "_law_rest", "_law_told_here", "_law_behind", "_law_post"] ["_law_parts", "_law_start", "_law_ends_here", "_law_lane", "_law_other"] (defScope s_law_free) := ⟨rfl, rfl, rfl, by decide +kernel, rfl, by decide +kernel, by decide +kernel⟩
theorem sc_law_right : FnScope ["_law_parts", "_law_start", "_law_ends_here", "_law_told_here", "_law_lane", "_law_other", "_law_found", "_law_side", "_law_posts", "_law_first", "_law_second", "_law_post", "_law_shut", "_law_row", "_law_out"] ["_law_parts", "_law_start", "_law_ends_here", "_law_told_here"] (defScope s_law_right) := ⟨rfl, rfl, rfl, by decide +kernel, rfl, by decide +kernel, by decide +kernel⟩
theorem sc_law : FnScope ["_law_script", "_law_turn", "_law_pool_here", "_law_parts", "_law_start", "_law_ends_here", "_law_course_here", "_law_used_here", "_law_lanes_here", "_law_one", "_law_two", "_law_other", "_law_lane", "_law_kind", "_law_found", "_law_is_free", "_law_told_here"] ["_law_script"] (defScope s_law) := ⟨rfl, rfl, rfl, by decide +kernel, rfl, by decide +kernel, by decide +kernel⟩
theorem sc_BadName___init : FnScope ["self", "name"] ["self", "name"] (defScope s_BadName___init) := ⟨rfl, rfl, rfl, by decide +kernel, rfl, by decide +kernel, by decide +kernel⟩
theorem sc_NameTaken___init : FnScope ["self", "name"] ["self", "name"] (defScope s_NameTaken___init) := ⟨rfl, rfl, rfl, by decide +kernel, rfl, by decide +kernel, by decide +kernel⟩
theorem sc_NoPost___init : FnScope ["self", "name"] ["self", "name"] (defScope s_NoPost___init) := ⟨rfl, rfl, rfl, by decide +kernel, rfl, by decide +kernel, by decide +kernel⟩
theorem sc_NoLane___init : FnScope ["self", "name"] ["self", "name"] (defScope s_NoLane___init) := ⟨rfl, rfl, rfl, by decide +kernel, rfl, by decide +kernel, by decide +kernel⟩
theorem sc_NoRun___init : FnScope ["self", "name"] ["self", "name"] (defScope s_NoRun___init) := ⟨rfl, rfl, rfl, by decide +kernel, rfl, by decide +kernel, by decide +kernel⟩
theorem sc_SameLane___init : FnScope ["self", "name"] ["self", "name"] (defScope s_SameLane___init) := ⟨rfl, rfl, rfl, by decide +kernel, rfl, by decide +kernel, by decide +kernel⟩
/-- what the top leaves -/
structure Tx (K : PySem.W.Frag) (mg : Str → Option Value) : Prop where
  v_LETTERS : ∃ u, mg "LETTERS" = some u ∧ RelV (.str "abcdefghijklmnopqrstuvwxyz") u
  n_len : mg "len" = none
  v_LONGEST : ∃ u, mg "LONGEST" = some u ∧ RelV (.int 8) u
  n_isinstance : mg "isinstance" = none
  n_str : mg "str" = none
  n_all : mg "all" = none
  v_DIGITS : ∃ u, mg "DIGITS" = some u ∧ RelV (.str "0123456789") u
  x0_EmptyWalk : excIn K (He.ga K "EmptyWalk") He.veBase "ValueError.__new__" = true ∧ keepIn K (.ref (He.ga K "EmptyWalk")) = true ∧ subIn K (.ref (He.ga K "EmptyWalk")) (.type "BaseException") = some true ∧ typeIn K (.ref (He.ga K "EmptyWalk")) = some (.type "type")
  g_EmptyWalk : mg "EmptyWalk" = some (.ref (He.ga K "EmptyWalk")) ∧ keepIn K (.ref (He.ga K "EmptyWalk")) = true
  g_is_name : mg "is_name" = some (.ref (He.ga K "is_name")) ∧ keepIn K (.ref (He.ga K "is_name")) = true
  g_BadName : mg "BadName" = some (.ref (He.ga K "BadName")) ∧ keepIn K (.ref (He.ga K "BadName")) = true
  g_read_tree : mg "read_tree" = some (.ref (He.ga K "read_tree")) ∧ keepIn K (.ref (He.ga K "read_tree")) = true
  g_crossed : mg "crossed" = some (.ref (He.ga K "crossed")) ∧ keepIn K (.ref (He.ga K "crossed")) = true
  mk_Machine : Mk K (He.ga K "Machine") (He.ma K (He.ga K "Machine") "__init__")
  g_Machine : mg "Machine" = some (.ref (He.ga K "Machine")) ∧ keepIn K (.ref (He.ga K "Machine")) = true
  mk_Pattern : Mk K (He.ga K "Pattern") (He.ma K (He.ga K "Pattern") "__init__")
  g_Pattern : mg "Pattern" = some (.ref (He.ga K "Pattern")) ∧ keepIn K (.ref (He.ga K "Pattern")) = true
  g_check_lanes : mg "check_lanes" = some (.ref (He.ga K "check_lanes")) ∧ keepIn K (.ref (He.ga K "check_lanes")) = true
  g_word_pattern : mg "word_pattern" = some (.ref (He.ga K "word_pattern")) ∧ keepIn K (.ref (He.ga K "word_pattern")) = true
  g_made_machine : mg "made_machine" = some (.ref (He.ga K "made_machine")) ∧ keepIn K (.ref (He.ga K "made_machine")) = true
  g_as_pattern : mg "as_pattern" = some (.ref (He.ga K "as_pattern")) ∧ keepIn K (.ref (He.ga K "as_pattern")) = true
  n_any : mg "any" = none
  n_tuple : mg "tuple" = none
  cl_Machine : Cls K (He.ga K "Machine")
  me_Machine_is_behind : Meth K (He.ga K "Machine") "is_behind" (He.ma K (He.ga K "Machine") "is_behind")
  me_Machine_takes : Meth K (He.ga K "Machine") "takes" (He.ma K (He.ga K "Machine") "takes")
  n_range : mg "range" = none
  n_list : mg "list" = none
  t0_Net___init : IsT0 K (He.dflAt ("Net", some "__init__") 0 K)
  g_NameTaken : mg "NameTaken" = some (.ref (He.ga K "NameTaken")) ∧ keepIn K (.ref (He.ga K "NameTaken")) = true
  g_NoPost : mg "NoPost" = some (.ref (He.ga K "NoPost")) ∧ keepIn K (.ref (He.ga K "NoPost")) = true
  g_NoLane : mg "NoLane" = some (.ref (He.ga K "NoLane")) ∧ keepIn K (.ref (He.ga K "NoLane")) = true
  mk_Net : Mk K (He.ga K "Net") (He.ma K (He.ga K "Net") "__init__")
  g_Net : mg "Net" = some (.ref (He.ga K "Net")) ∧ keepIn K (.ref (He.ga K "Net")) = true
  g_first_missing : mg "first_missing" = some (.ref (He.ga K "first_missing")) ∧ keepIn K (.ref (He.ga K "first_missing")) = true
  cl_Net : Cls K (He.ga K "Net")
  me_Net_post : Meth K (He.ga K "Net") "post" (He.ma K (He.ga K "Net") "post")
  me_Net_lane : Meth K (He.ga K "Net") "lane" (He.ma K (He.ga K "Net") "lane")
  g_reached_posts : mg "reached_posts" = some (.ref (He.ga K "reached_posts")) ∧ keepIn K (.ref (He.ga K "reached_posts")) = true
  sm_Net_neg : Sm K (He.ga K "Net") "__neg__" (He.ma K (He.ga K "Net") "__neg__")
  pr_Net_posts : PropOf K (He.ga K "Net") "posts" (He.ma K (He.ga K "Net") "posts") (pga K (He.ga K "Net") "posts")
  me_Net_copy : Meth K (He.ga K "Net") "copy" (He.ma K (He.ga K "Net") "copy")
  g_posts_before : mg "posts_before" = some (.ref (He.ga K "posts_before")) ∧ keepIn K (.ref (He.ga K "posts_before")) = true
  me_Net_end_of : Meth K (He.ga K "Net") "end_of" (He.ma K (He.ga K "Net") "end_of")
  me_Net_start_of : Meth K (He.ga K "Net") "start_of" (He.ma K (He.ga K "Net") "start_of")
  pr_Net_lanes : PropOf K (He.ga K "Net") "lanes" (He.ma K (He.ga K "Net") "lanes") (pga K (He.ga K "Net") "lanes")
  g_check_known : mg "check_known" = some (.ref (He.ga K "check_known")) ∧ keepIn K (.ref (He.ga K "check_known")) = true
  g_lanes_of : mg "lanes_of" = some (.ref (He.ga K "lanes_of")) ∧ keepIn K (.ref (He.ga K "lanes_of")) = true
  g_NoRun : mg "NoRun" = some (.ref (He.ga K "NoRun")) ∧ keepIn K (.ref (He.ga K "NoRun")) = true
  me_Net_out_of : Meth K (He.ga K "Net") "out_of" (He.ma K (He.ga K "Net") "out_of")
  me_Machine_begun : Meth K (He.ga K "Machine") "begun" (He.ma K (He.ga K "Machine") "begun")
  me_Machine_is_done : Meth K (He.ga K "Machine") "is_done" (He.ma K (He.ga K "Machine") "is_done")
  g_machine_of : mg "machine_of" = some (.ref (He.ga K "machine_of")) ∧ keepIn K (.ref (He.ga K "machine_of")) = true
  g_check_used : mg "check_used" = some (.ref (He.ga K "check_used")) ∧ keepIn K (.ref (He.ga K "check_used")) = true
  g_shortest_run : mg "shortest_run" = some (.ref (He.ga K "shortest_run")) ∧ keepIn K (.ref (He.ga K "shortest_run")) = true
  g_SameLane : mg "SameLane" = some (.ref (He.ga K "SameLane")) ∧ keepIn K (.ref (He.ga K "SameLane")) = true
  bo_Net_Sub : Bo K (He.ga K "Net") .Sub (He.ma K (He.ga K "Net") "__sub__")
  n_int : mg "int" = none
  g_law_take : mg "_law_take" = some (.ref (He.ga K "_law_take")) ∧ keepIn K (.ref (He.ga K "_law_take")) = true
  g_law_many : mg "_law_many" = some (.ref (He.ga K "_law_many")) ∧ keepIn K (.ref (He.ga K "_law_many")) = true
  g_law_mixed : mg "_law_mixed" = some (.ref (He.ga K "_law_mixed")) ∧ keepIn K (.ref (He.ga K "_law_mixed")) = true
  g_law_ways : mg "_law_ways" = some (.ref (He.ga K "_law_ways")) ∧ keepIn K (.ref (He.ga K "_law_ways")) = true
  xc_NoRun : Xc K (He.ga K "NoRun")
  xn_NoRun_name : findIn K (.ref (He.ga K "NoRun")) "name" = some none
  xc_SameLane : Xc K (He.ga K "SameLane")
  xn_SameLane_name : findIn K (.ref (He.ga K "SameLane")) "name" = some none
  xc_NoLane : Xc K (He.ga K "NoLane")
  xn_NoLane_name : findIn K (.ref (He.ga K "NoLane")) "name" = some none
  g_gate : mg "gate" = some (.ref (He.ga K "gate")) ∧ keepIn K (.ref (He.ga K "gate")) = true
  g_law_ends : mg "_law_ends" = some (.ref (He.ga K "_law_ends")) ∧ keepIn K (.ref (He.ga K "_law_ends")) = true
  g_law_pool : mg "_law_pool" = some (.ref (He.ga K "_law_pool")) ∧ keepIn K (.ref (He.ga K "_law_pool")) = true
  g_law_cell : mg "_law_cell" = some (.ref (He.ga K "_law_cell")) ∧ keepIn K (.ref (He.ga K "_law_cell")) = true
  g_law_line_net : mg "_law_line_net" = some (.ref (He.ga K "_law_line_net")) ∧ keepIn K (.ref (He.ga K "_law_line_net")) = true
  g_law_course : mg "_law_course" = some (.ref (He.ga K "_law_course")) ∧ keepIn K (.ref (He.ga K "_law_course")) = true
  mk_Course : Mk K (He.ga K "Course") (He.ma K (He.ga K "Course") "__init__")
  g_Course : mg "Course" = some (.ref (He.ga K "Course")) ∧ keepIn K (.ref (He.ga K "Course")) = true
  g_law_built : mg "_law_built" = some (.ref (He.ga K "_law_built")) ∧ keepIn K (.ref (He.ga K "_law_built")) = true
  g_law_used : mg "_law_used" = some (.ref (He.ga K "_law_used")) ∧ keepIn K (.ref (He.ga K "_law_used")) = true
  g_law_lanes : mg "_law_lanes" = some (.ref (He.ga K "_law_lanes")) ∧ keepIn K (.ref (He.ga K "_law_lanes")) = true
  g_law_stranger : mg "_law_stranger" = some (.ref (He.ga K "_law_stranger")) ∧ keepIn K (.ref (He.ga K "_law_stranger")) = true
  g_law_told : mg "_law_told" = some (.ref (He.ga K "_law_told")) ∧ keepIn K (.ref (He.ga K "_law_told")) = true
  g_law_free : mg "_law_free" = some (.ref (He.ga K "_law_free")) ∧ keepIn K (.ref (He.ga K "_law_free")) = true
  g_law_right : mg "_law_right" = some (.ref (He.ga K "_law_right")) ∧ keepIn K (.ref (He.ga K "_law_right")) = true
  g_without : mg "without" = some (.ref (He.ga K "without")) ∧ keepIn K (.ref (He.ga K "without")) = true
  xc_BadName : Xc K (He.ga K "BadName")
  xi_BadName : findIn K (.ref (He.ga K "BadName")) "__init__" = some (some (.ref (He.ma K (He.ga K "BadName") "__init__"))) ∧ typeIn K (.ref (He.ma K (He.ga K "BadName") "__init__")) = some (.type "function")
  xn_BadName_name : findIn K (.ref (He.ga K "BadName")) "name" = some none
  xc_NameTaken : Xc K (He.ga K "NameTaken")
  xi_NameTaken : findIn K (.ref (He.ga K "NameTaken")) "__init__" = some (some (.ref (He.ma K (He.ga K "NameTaken") "__init__"))) ∧ typeIn K (.ref (He.ma K (He.ga K "NameTaken") "__init__")) = some (.type "function")
  xn_NameTaken_name : findIn K (.ref (He.ga K "NameTaken")) "name" = some none
  xc_NoPost : Xc K (He.ga K "NoPost")
  xi_NoPost : findIn K (.ref (He.ga K "NoPost")) "__init__" = some (some (.ref (He.ma K (He.ga K "NoPost") "__init__"))) ∧ typeIn K (.ref (He.ma K (He.ga K "NoPost") "__init__")) = some (.type "function")
  xn_NoPost_name : findIn K (.ref (He.ga K "NoPost")) "name" = some none
  xi_NoLane : findIn K (.ref (He.ga K "NoLane")) "__init__" = some (some (.ref (He.ma K (He.ga K "NoLane") "__init__"))) ∧ typeIn K (.ref (He.ma K (He.ga K "NoLane") "__init__")) = some (.type "function")
  xi_NoRun : findIn K (.ref (He.ga K "NoRun")) "__init__" = some (some (.ref (He.ma K (He.ga K "NoRun") "__init__"))) ∧ typeIn K (.ref (He.ma K (He.ga K "NoRun") "__init__")) = some (.type "function")
  xi_SameLane : findIn K (.ref (He.ga K "SameLane")) "__init__" = some (some (.ref (He.ma K (He.ga K "SameLane") "__init__"))) ∧ typeIn K (.ref (He.ma K (He.ga K "SameLane") "__init__")) = some (.type "function")
  g_law : mg "law" = some (.ref (He.ga K "law")) ∧ keepIn K (.ref (He.ga K "law")) = true
  kt_NoneType_str : kitOne K (.type "NoneType") (.type "str") = some false
  kt_bool_str : kitOne K (.type "bool") (.type "str") = some false
  kt_int_str : kitOne K (.type "int") (.type "str") = some false
  kt_list_str : kitOne K (.type "list") (.type "str") = some false
  kt_tuple_str : kitOne K (.type "tuple") (.type "str") = some false
  kt_str_str : kitOne K (.type "str") (.type "str") = some true
  na_Machine_atoms : NoAttr K (He.ga K "Machine") "atoms"
  na_Machine_firsts : NoAttr K (He.ga K "Machine") "firsts"
  na_Machine_lasts : NoAttr K (He.ga K "Machine") "lasts"
  na_Machine_pairs : NoAttr K (He.ga K "Machine") "pairs"
  na_Machine_is_optional : NoAttr K (He.ga K "Machine") "is_optional"
  np_0 : NoP K
  cl_Pattern : Cls K (He.ga K "Pattern")
  na_Pattern_tree : NoAttr K (He.ga K "Pattern") "tree"
  ci_Pattern : ClsI K (He.ga K "Pattern")
  ko_Pattern_Pattern : kitOne K (.ref (He.ga K "Pattern")) (.ref (He.ga K "Pattern")) = some true
  kc_list_Pattern : kitOne K (.type "list") (.ref (He.ga K "Pattern")) = some false
  kc_tuple_Pattern : kitOne K (.type "tuple") (.ref (He.ga K "Pattern")) = some false
  na_Net_order : NoAttr K (He.ga K "Net") "order"
  na_Net_ends_by_lane : NoAttr K (He.ga K "Net") "ends_by_lane"
  cl_Course : Cls K (He.ga K "Course")
  na_Course_base : NoAttr K (He.ga K "Course") "base"
  na_Course_start : NoAttr K (He.ga K "Course") "start"
  na_Course_ends : NoAttr K (He.ga K "Course") "ends"
  bt_Net_Sub_tuple : BoT K (He.ga K "Net") .Sub "tuple"
  ex_NoLane_NoLane : exmOne K (.ref (He.ga K "NoLane")) (.ref (He.ga K "NoLane")) = some true
  ex_SameLane_NoLane : exmOne K (.ref (He.ga K "SameLane")) (.ref (He.ga K "NoLane")) = some false
  ex_SameLane_SameLane : exmOne K (.ref (He.ga K "SameLane")) (.ref (He.ga K "SameLane")) = some true
  ex_NoRun_NoLane : exmOne K (.ref (He.ga K "NoRun")) (.ref (He.ga K "NoLane")) = some false
  ex_NoRun_SameLane : exmOne K (.ref (He.ga K "NoRun")) (.ref (He.ga K "SameLane")) = some false
  ex_NoRun_NoRun : exmOne K (.ref (He.ga K "NoRun")) (.ref (He.ga K "NoRun")) = some true
  kt_tuple_tuple : kitOne K (.type "tuple") (.type "tuple") = some true
  d_is_name : ∃ fd, FunD K "is_name" "is_name" (defArgs s_is_name) (defBody s_is_name) (defScope s_is_name) [] [] (He.ga K "is_name") fd
  d_first_missing : ∃ fd, FunD K "first_missing" "first_missing" (defArgs s_first_missing) (defBody s_first_missing) (defScope s_first_missing) [] [] (He.ga K "first_missing") fd
  d_check_lanes : ∃ fd, FunD K "check_lanes" "check_lanes" (defArgs s_check_lanes) (defBody s_check_lanes) (defScope s_check_lanes) [] [] (He.ga K "check_lanes") fd
  d_crossed : ∃ fd, FunD K "crossed" "crossed" (defArgs s_crossed) (defBody s_crossed) (defScope s_crossed) [] [] (He.ga K "crossed") fd
  d_read_tree : ∃ fd, FunD K "read_tree" "read_tree" (defArgs s_read_tree) (defBody s_read_tree) (defScope s_read_tree) [] [] (He.ga K "read_tree") fd
  d_Machine___init : ∃ fd, FunD K "__init__" "Machine.__init__" (defArgs s_Machine___init) (defBody s_Machine___init) (defScope s_Machine___init) [] [] (He.ma K (He.ga K "Machine") "__init__") fd
  d_made_machine : ∃ fd, FunD K "made_machine" "made_machine" (defArgs s_made_machine) (defBody s_made_machine) (defScope s_made_machine) [] [] (He.ga K "made_machine") fd
  d_Pattern___init : ∃ fd, FunD K "__init__" "Pattern.__init__" (defArgs s_Pattern___init) (defBody s_Pattern___init) (defScope s_Pattern___init) [] [] (He.ma K (He.ga K "Pattern") "__init__") fd
  d_word_pattern : ∃ fd, FunD K "word_pattern" "word_pattern" (defArgs s_word_pattern) (defBody s_word_pattern) (defScope s_word_pattern) [] [] (He.ga K "word_pattern") fd
  d_as_pattern : ∃ fd, FunD K "as_pattern" "as_pattern" (defArgs s_as_pattern) (defBody s_as_pattern) (defScope s_as_pattern) [] [] (He.ga K "as_pattern") fd
  d_machine_of : ∃ fd, FunD K "machine_of" "machine_of" (defArgs s_machine_of) (defBody s_machine_of) (defScope s_machine_of) [] [] (He.ga K "machine_of") fd
  d_Machine_takes : ∃ fd, FunD K "takes" "Machine.takes" (defArgs s_Machine_takes) (defBody s_Machine_takes) (defScope s_Machine_takes) [] [] (He.ma K (He.ga K "Machine") "takes") fd
  d_Machine_is_behind : ∃ fd, FunD K "is_behind" "Machine.is_behind" (defArgs s_Machine_is_behind) (defBody s_Machine_is_behind) (defScope s_Machine_is_behind) [] [] (He.ma K (He.ga K "Machine") "is_behind") fd
  d_Machine_after : ∃ fd, FunD K "after" "Machine.after" (defArgs s_Machine_after) (defBody s_Machine_after) (defScope s_Machine_after) [] [] (He.ma K (He.ga K "Machine") "after") fd
  d_Machine_begun : ∃ fd, FunD K "begun" "Machine.begun" (defArgs s_Machine_begun) (defBody s_Machine_begun) (defScope s_Machine_begun) [] [] (He.ma K (He.ga K "Machine") "begun") fd
  d_Machine_is_done : ∃ fd, FunD K "is_done" "Machine.is_done" (defArgs s_Machine_is_done) (defBody s_Machine_is_done) (defScope s_Machine_is_done) [] [] (He.ma K (He.ga K "Machine") "is_done") fd
  d_Net___init : ∃ fd, FunD K "__init__" "Net.__init__" (defArgs s_Net___init) (defBody s_Net___init) (defScope s_Net___init) [.ref (He.dflAt ("Net", some "__init__") 0 K), .non] [] (He.ma K (He.ga K "Net") "__init__") fd
  d_Net_posts : ∃ fd, FunD K "posts" "Net.posts" (defArgs s_Net_posts) (defBody s_Net_posts) (defScope s_Net_posts) [] [] (pga K (He.ga K "Net") "posts") fd
  d_Net_lanes : ∃ fd, FunD K "lanes" "Net.lanes" (defArgs s_Net_lanes) (defBody s_Net_lanes) (defScope s_Net_lanes) [] [] (pga K (He.ga K "Net") "lanes") fd
  d_Net_post : ∃ fd, FunD K "post" "Net.post" (defArgs s_Net_post) (defBody s_Net_post) (defScope s_Net_post) [] [] (He.ma K (He.ga K "Net") "post") fd
  d_Net_lane : ∃ fd, FunD K "lane" "Net.lane" (defArgs s_Net_lane) (defBody s_Net_lane) (defScope s_Net_lane) [] [] (He.ma K (He.ga K "Net") "lane") fd
  d_Net_start_of : ∃ fd, FunD K "start_of" "Net.start_of" (defArgs s_Net_start_of) (defBody s_Net_start_of) (defScope s_Net_start_of) [] [] (He.ma K (He.ga K "Net") "start_of") fd
  d_Net_end_of : ∃ fd, FunD K "end_of" "Net.end_of" (defArgs s_Net_end_of) (defBody s_Net_end_of) (defScope s_Net_end_of) [] [] (He.ma K (He.ga K "Net") "end_of") fd
  d_Net_out_of : ∃ fd, FunD K "out_of" "Net.out_of" (defArgs s_Net_out_of) (defBody s_Net_out_of) (defScope s_Net_out_of) [] [] (He.ma K (He.ga K "Net") "out_of") fd
  d_Net_copy : ∃ fd, FunD K "copy" "Net.copy" (defArgs s_Net_copy) (defBody s_Net_copy) (defScope s_Net_copy) [] [] (He.ma K (He.ga K "Net") "copy") fd
  d_Net___neg : ∃ fd, FunD K "__neg__" "Net.__neg__" (defArgs s_Net___neg) (defBody s_Net___neg) (defScope s_Net___neg) [] [] (He.ma K (He.ga K "Net") "__neg__") fd
  d_Net___sub : ∃ fd, FunD K "__sub__" "Net.__sub__" (defArgs s_Net___sub) (defBody s_Net___sub) (defScope s_Net___sub) [] [] (He.ma K (He.ga K "Net") "__sub__") fd
  d_law_built : ∃ fd, FunD K "_law_built" "_law_built" (defArgs s_law_built) (defBody s_law_built) (defScope s_law_built) [] [] (He.ga K "_law_built") fd
  d_law_ends : ∃ fd, FunD K "_law_ends" "_law_ends" (defArgs s_law_ends) (defBody s_law_ends) (defScope s_law_ends) [] [] (He.ga K "_law_ends") fd
  d_law_ways : ∃ fd, FunD K "_law_ways" "_law_ways" (defArgs s_law_ways) (defBody s_law_ways) (defScope s_law_ways) [] [] (He.ga K "_law_ways") fd
  d_reached_posts : ∃ fd, FunD K "reached_posts" "reached_posts" (defArgs s_reached_posts) (defBody s_reached_posts) (defScope s_reached_posts) [] [] (He.ga K "reached_posts") fd
  d_posts_before : ∃ fd, FunD K "posts_before" "posts_before" (defArgs s_posts_before) (defBody s_posts_before) (defScope s_posts_before) [] [] (He.ga K "posts_before") fd
  d_Course___init : ∃ fd, FunD K "__init__" "Course.__init__" (defArgs s_Course___init) (defBody s_Course___init) (defScope s_Course___init) [] [] (He.ma K (He.ga K "Course") "__init__") fd
  d_lanes_of : ∃ fd, FunD K "lanes_of" "lanes_of" (defArgs s_lanes_of) (defBody s_lanes_of) (defScope s_lanes_of) [] [] (He.ga K "lanes_of") fd
  d_check_known : ∃ fd, FunD K "check_known" "check_known" (defArgs s_check_known) (defBody s_check_known) (defScope s_check_known) [] [] (He.ga K "check_known") fd
  d_check_used : ∃ fd, FunD K "check_used" "check_used" (defArgs s_check_used) (defBody s_check_used) (defScope s_check_used) [] [] (He.ga K "check_used") fd
  d_shortest_run : ∃ fd, FunD K "shortest_run" "shortest_run" (defArgs s_shortest_run) (defBody s_shortest_run) (defScope s_shortest_run) [] [] (He.ga K "shortest_run") fd
  d_without : ∃ fd, FunD K "without" "without" (defArgs s_without) (defBody s_without) (defScope s_without) [] [] (He.ga K "without") fd
  d_gate : ∃ fd, FunD K "gate" "gate" (defArgs s_gate) (defBody s_gate) (defScope s_gate) [] [] (He.ga K "gate") fd
  d_law_cell : ∃ fd, FunD K "_law_cell" "_law_cell" (defArgs s_law_cell) (defBody s_law_cell) (defScope s_law_cell) [] [] (He.ga K "_law_cell") fd
  d_law_pool : ∃ fd, FunD K "_law_pool" "_law_pool" (defArgs s_law_pool) (defBody s_law_pool) (defScope s_law_pool) [] [] (He.ga K "_law_pool") fd
  d_law_take : ∃ fd, FunD K "_law_take" "_law_take" (defArgs s_law_take) (defBody s_law_take) (defScope s_law_take) [] [] (He.ga K "_law_take") fd
  d_law_many : ∃ fd, FunD K "_law_many" "_law_many" (defArgs s_law_many) (defBody s_law_many) (defScope s_law_many) [] [] (He.ga K "_law_many") fd
  d_law_mixed : ∃ fd, FunD K "_law_mixed" "_law_mixed" (defArgs s_law_mixed) (defBody s_law_mixed) (defScope s_law_mixed) [] [] (He.ga K "_law_mixed") fd
  d_law_line_net : ∃ fd, FunD K "_law_line_net" "_law_line_net" (defArgs s_law_line_net) (defBody s_law_line_net) (defScope s_law_line_net) [] [] (He.ga K "_law_line_net") fd
  d_law_course : ∃ fd, FunD K "_law_course" "_law_course" (defArgs s_law_course) (defBody s_law_course) (defScope s_law_course) [] [] (He.ga K "_law_course") fd
  d_law_lanes : ∃ fd, FunD K "_law_lanes" "_law_lanes" (defArgs s_law_lanes) (defBody s_law_lanes) (defScope s_law_lanes) [] [] (He.ga K "_law_lanes") fd
  d_law_stranger : ∃ fd, FunD K "_law_stranger" "_law_stranger" (defArgs s_law_stranger) (defBody s_law_stranger) (defScope s_law_stranger) [] [] (He.ga K "_law_stranger") fd
  d_law_used : ∃ fd, FunD K "_law_used" "_law_used" (defArgs s_law_used) (defBody s_law_used) (defScope s_law_used) [] [] (He.ga K "_law_used") fd
  d_law_told : ∃ fd, FunD K "_law_told" "_law_told" (defArgs s_law_told) (defBody s_law_told) (defScope s_law_told) [] [] (He.ga K "_law_told") fd
  d_law_free : ∃ fd, FunD K "_law_free" "_law_free" (defArgs s_law_free) (defBody s_law_free) (defScope s_law_free) [] [] (He.ga K "_law_free") fd
  d_law_right : ∃ fd, FunD K "_law_right" "_law_right" (defArgs s_law_right) (defBody s_law_right) (defScope s_law_right) [] [] (He.ga K "_law_right") fd
  d_law : ∃ fd, FunD K "law" "law" (defArgs s_law) (defBody s_law) (defScope s_law) [] [] (He.ga K "law") fd
  d_BadName___init : ∃ fd, FunD K "__init__" "BadName.__init__" (defArgs s_BadName___init) (defBody s_BadName___init) (defScope s_BadName___init) [] [] (He.ma K (He.ga K "BadName") "__init__") fd
  d_NameTaken___init : ∃ fd, FunD K "__init__" "NameTaken.__init__" (defArgs s_NameTaken___init) (defBody s_NameTaken___init) (defScope s_NameTaken___init) [] [] (He.ma K (He.ga K "NameTaken") "__init__") fd
  d_NoPost___init : ∃ fd, FunD K "__init__" "NoPost.__init__" (defArgs s_NoPost___init) (defBody s_NoPost___init) (defScope s_NoPost___init) [] [] (He.ma K (He.ga K "NoPost") "__init__") fd
  d_NoLane___init : ∃ fd, FunD K "__init__" "NoLane.__init__" (defArgs s_NoLane___init) (defBody s_NoLane___init) (defScope s_NoLane___init) [] [] (He.ma K (He.ga K "NoLane") "__init__") fd
  d_NoRun___init : ∃ fd, FunD K "__init__" "NoRun.__init__" (defArgs s_NoRun___init) (defBody s_NoRun___init) (defScope s_NoRun___init) [] [] (He.ma K (He.ga K "NoRun") "__init__") fd
  d_SameLane___init : ∃ fd, FunD K "__init__" "SameLane.__init__" (defArgs s_SameLane___init) (defBody s_SameLane___init) (defScope s_SameLane___init) [] [] (He.ma K (He.ga K "SameLane") "__init__") fd
section
variable {P : Program} {w : World} {K : PySem.W.Frag} {mg : Str → Option Value} {base : Heap}
end
def ct_is_name (K : PySem.W.Frag) : Ct := Ct1 fun a ka out => ∃ d, a = .val d ∧ nmOk d ∧ ka = [] ∧ out = Rt (.bl (isNmD d)) []
section
variable {P : Program} {w : World} {K : PySem.W.Frag} {mg : Str → Option Value} {base : Heap}
theorem ok_is_name (T : Tx K mg) : Fn P w K mg base 4 (He.ga K "is_name") ["word"] (ct_is_name K) := by
  obtain ⟨fd, F⟩ := T.d_is_name
  refine fn_ok F sc_is_name (fun _ _ _ _ _ _ us hl => match us, hl with | [_], _ => rfl) ct1_len (fun cdv A outer s H E hr => ⟨_, (pss_cons (ps_if (PW.pt (pw_or (pt_not (pt_val (pe_callB call_isi rfl T.n_isinstance (by decide +kernel) (pa_cons (pv 0) (pa_cons (pe_bltn (v := .ty "str") rfl T.n_str (by decide +kernel) rfl) pa_nil))))) (pw_or (pt_cmpR (op_eqP (by have := (hr).units; exact this)) (pv 0) pe_str (nomark _)) (pw_or (pt_cmpR op_gt (pe_callB call_lenU rfl T.n_len (by decide +kernel) (pa_cons (pv 0) pa_nil)) (pe_gv rfl T.v_LONGEST) (nomark _)) (pw_or1 (pt_cmpR op_niU (pe_ix ix_seq (pv 0) pe_int fun _ _ => rfl) (pe_gv rfl T.v_LETTERS) (by with_unfolding_all rfl)))))))
      (pss_one (ps_ret pe_bl))
      pss_nil)
      (pss_one (ps_ret (pe_callB (cr_all rfl) rfl T.n_all (by decide +kernel) (pa_cons (pe_lc (te := (tOrV (tOp (rInU K) (tVar 1) (tC (.str "abcdefghijklmnopqrstuvwxyz"))) (tOp (rInU K) (tVar 1) (tC (.str "0123456789"))))) (tt := tYes) (own := [("sign", 1)]) rfl sc_is_name.nd (pi_seq (pv 0)) (blk_ok ["word", "sign"] (defScope s_is_name) rfl rfl (by decide +kernel)) (fun _ _ _ _ _ => (pg_name (i := 1) sc_is_name.nd rfl (by first | exact Or.inl rfl | exact Or.inr rfl))) (fun _ _ _ _ _ => pts_nil) (fun _ _ _ _ _ => (pe_or (pe_cmpR op_inU (pv 1) (pe_gv rfl T.v_LETTERS) (by with_unfolding_all rfl)) (pe_one (pe_cmpR op_inU (pv 1) (pe_gv rfl T.v_DIGITS) (by with_unfolding_all rfl)))))) pa_nil))))), fun ws ka out B F0 Q hC hR hX => ?_⟩)
  obtain ⟨a, rfl, d, rfl, hd, rfl, rfl⟩ := hC
  have other : (∃ s, d = .str s) ∨ ∃ t, tyD d = some t ∧ kitOne K (.type t) (.type "str") = some false ∧ isNmD d = false := by
    cases d with
    | non => exact .inr ⟨_, rfl, T.kt_NoneType_str, rfl⟩
    | bl b => exact .inr ⟨_, rfl, T.kt_bool_str, rfl⟩
    | int i => exact .inr ⟨_, rfl, T.kt_int_str, rfl⟩
    | lst ds => exact .inr ⟨_, rfl, T.kt_list_str, rfl⟩
    | tup ds => exact .inr ⟨_, rfl, T.kt_tuple_str, rfl⟩
    | str s => exact .inl ⟨s, rfl⟩
    | _ => exact absurd rfl hd
  rcases other with ⟨s, rfl⟩ | ⟨t, ht, hk, hn⟩
  · have hs : s.length ≤ 100000 := Nat.le_trans hd (by decide)
    cases hc : s.cps.toList with
    | nil =>
      have e := str_nil hc
      refine q_when (et_or0 ((et_not (et_B (ev_isi (ev_var rfl) .str T.kt_str_str))).to rfl) (et_or1 ((et_test (ev_eqS (ev_var rfl) ev_str)).to (by rw [e]; rfl)))) (fun _ => g_ret hR ev_bl ⟨?_, rfl⟩) (fun z => by cases z)
      show Out.ret (.bl false) = Out.ret (.bl (isNm s))
      unfold isNm
      rw [hc]
      rfl
    | cons c r =>
      have e : (s == ("" : Str)) = false := by
        refine beq_eq_false_iff_ne.mpr fun z => ?_
        rw [z] at hc
        cases hc
      have hl : s.length = (c :: r).length := by rw [str_len, hc]
      refine q_when (et_or0 ((et_not (et_B (ev_isi (ev_var rfl) .str T.kt_str_str))).to rfl) (et_or0 ((et_test (ev_eqS (ev_var rfl) ev_str)).to e) (et_or (et_test (ev_gt (ev_lenS (ev_var rfl) hs) ev_int)) (fun _ => et_test (ev_niS (ev_ixS (c := c) (ev_var rfl) ev_int hs (by rw [hc]; exact at0)) ev_str))))) (fun hb => g_ret hR ev_bl ⟨?_, rfl⟩) (fun hb => ?_)
      · show Out.ret (.bl false) = Out.ret (.bl (isNm s))
        unfold isNm nmL
        rw [hc]
        rw [Bool.or_eq_true, decide_eq_true_eq, Bool.not_eq_true', decide_eq_false_iff_not] at hb
        rcases hb with hb | hb
        · have : ¬ (c :: r).length ≤ 8 := by rw [← hl]; omega
          simp only [decide_eq_false this, Bool.false_and]
        · have : decide (c ∈ letL) = false := decide_eq_false hb
          simp only [this, Bool.false_and, Bool.and_false]
      · rw [Bool.or_eq_false_iff, decide_eq_false_iff_not, Bool.not_eq_false', decide_eq_true_eq] at hb
        refine g_ret hR (ev_cb (ea1 (evn_map (f := fun x => D.bl (decide (x ∈ letL) || decide (x ∈ digL))) (ei_str (ev_var rfl)) (by decide) (by rw [← str_len]; omega) ⟨trivial, fun _ => trivial⟩ (fun x hx => ev_orV (ev_inS (ev_var rfl) ev_str) fun _ => ev_inS (ev_var rfl) ev_str)).lst) (rc_all (b := false) (bs := s.cps.toList.map fun x => decide (x ∈ letL) || decide (x ∈ digL)) ?_)) ⟨?_, rfl⟩
        · rw [List.map_map]
          exact .vl
        · show Out.ret _ = Out.ret (.bl (isNm s))
          unfold isNm nmL
          rw [hc, List.all_map]
          have h1 : (c :: r).length ≤ 8 := by rw [← hl]; omega
          have h2 : decide (c ∈ letL) = true := decide_eq_true hb.2
          simp only [decide_eq_true h1, h2, Bool.true_and]
          rfl
  · exact q_when (et_or1 ((et_not (et_B (ev_isi (ev_var rfl) (tw_of ht) hk))).to rfl)) (fun _ => g_ret hR ev_bl ⟨by rw [hn], rfl⟩) (fun z => by cases z)
end
/-- the first of xs that ys has not -/
def fmD (xs ys : List Str) : D := match xs.find? fun x => !decide (x ∈ ys) with
  | some x => .str x
  | none => .non
theorem fmD_skip {xs ys : List Str} : (∀ x ∈ xs, x ∈ ys) → fmD xs ys = .non := fun h => by
  unfold fmD
  rw [List.find?_eq_none.mpr fun x hx => by simp [h x hx]]
theorem fmD_at {xs ys : List Str} {i : Nat} {x : Str} (h : ∀ y ∈ xs.take i, y ∈ ys) (hx : xs[i]? = some x) (hn : ¬ x ∈ ys) : fmD xs ys = .str x := by
  have e : xs = xs.take i ++ x :: xs.drop (i + 1) := by
    obtain ⟨hi, rfl⟩ := List.getElem?_eq_some_iff.mp hx
    rw [List.getElem_cons_drop, List.take_append_drop]
  unfold fmD
  rw [e, List.find?_append, List.find?_eq_none.mpr (fun y hy => by simp [h y hy]), Option.none_or, List.find?_cons_of_pos (by simp [hn])]
def ct_first_missing (K : PySem.W.Frag) : Ct := Ct2 fun a b ka out => ∃ xs ys t1 b1, Lk ka a t1 (stD xs) b1 ∧ HasS ka b ys ∧ out = Rt (fmD xs ys) ka
section
variable {P : Program} {w : World} {K : PySem.W.Frag} {mg : Str → Option Value} {base : Heap}
theorem ok_first_missing (T : Tx K mg) : Fn P w K mg base 4 (He.ga K "first_missing") ["names", "known"] (ct_first_missing K) := by
  obtain ⟨fd, F⟩ := T.d_first_missing
  refine fn_ok F sc_first_missing (fun _ _ _ _ _ _ us hl => match us, hl with | [_, _], _ => rfl) ct2_len (fun cdv A outer s H E hr => ⟨_, (pss_cons (ps_for (passes_of rfl) rfl (pi_seq (pv 0)) (pg_name (i := 2) sc_first_missing.nd rfl (by first | exact Or.inl rfl | exact Or.inr rfl)) (pss_one (ps_if (pt_cmpR (op_niD (hu1 hr)) (pv 2) (pv 1) (by with_unfolding_all rfl))
      (pss_one (ps_ret (pv 2)))
      pss_nil)))
      (pss_one (ps_ret pe_non))), fun ws ka out B F0 Q hC hR hX => ?_⟩)
  obtain ⟨a, b, rfl, xs, ys, t1, b1, l1, l2, rfl⟩ := hC
  refine q_forn (ei_seq (ev_var rfl) l1) (fun i ro ka' => ∃ v, ro = [some a, some b, v] ∧ ka' = ka ∧ ∀ y ∈ xs.take i, y ∈ ys) ⟨none, rfl, rfl, fun y hy => by cases hy⟩ (fun i ro2 ka2 ⟨v, _, e, _⟩ => e ▸ l1.stay) (fun i w ro2 ka2 ta' hw ⟨v, e1, e2, hs⟩ => ?_) (fun ro2 ka2 ta' ⟨v, e1, e2, hs⟩ _ => ?_)
  · subst e1 e2
    rw [List.getElem?_map] at hw
    cases hx : xs[i]? with
    | none => rw [show (stD xs)[i]? = none by unfold stD; rw [List.getElem?_map, hx]; rfl] at hw; cases hw
    | some x =>
      rw [stD_get hx] at hw
      cases hw
      have hp : part b1 (.str x) = .val (.str x) := by cases b1 <;> rfl
      rw [hp]
      refine g_if (et_test (ev_niH (ev_var rfl) (ev_var rfl) l2)) (fun hb => g_ret hR (ev_var rfl) ⟨?_, rfl⟩) (fun hb => g_next (g_jp ⟨_, rfl, rfl, fun y hy => ?_⟩))
      · rw [Bool.not_eq_true', decide_eq_false_iff_not] at hb
        rw [fmD_at hs hx hb]
      · rw [Bool.not_eq_false', decide_eq_true_eq] at hb
        rw [take_succ_some hx] at hy
        rcases List.mem_append.mp hy with hy | hy
        · exact hs y hy
        · rw [List.mem_singleton.mp hy]; exact hb
  · subst e1 e2
    rw [List.length_map, stD_len, List.take_length] at hs
    exact g_ret hR ev_non ⟨by rw [fmD_skip hs], rfl⟩
end
def ckOut (K : PySem.W.Frag) (ds : List D) (ka : Cells) : Oc := match ds, ds.find? (fun d => !isNmD d) with
  | [], _ => X0 (He.ga K "EmptyWalk") ka
  | _ :: _, none => Rt .non ka
  | _ :: _, some d => Xt (He.ga K "BadName") [("name", d)] ka
theorem ck_ok {K : PySem.W.Frag} {ds : List D} {ka : Cells} (h0 : ds ≠ []) (h : ∀ d ∈ ds, isNmD d = true) : ckOut K ds ka = Rt .non ka := by
  unfold ckOut
  rw [find_none (p := fun d => !isNmD d) fun e he => by rw [h e he]; rfl]
  cases ds with
  | nil => exact absurd rfl h0
  | cons d r => rfl
theorem ck_bad {K : PySem.W.Frag} {ds : List D} {d : D} {ka : Cells} (h : ds.find? (fun d => !isNmD d) = some d) : ckOut K ds ka = Xt (He.ga K "BadName") [("name", d)] ka := by
  unfold ckOut
  rw [h]
  cases ds with
  | nil => cases h
  | cons d r => rfl
def ct_check_lanes (K : PySem.W.Frag) : Ct := Ct1 fun a ka out => ∃ t ds b, Lk ka a t ds b ∧ SqF b ds ∧ (∀ d ∈ ds, nmOk d) ∧ out = ckOut K ds ka
section
variable {P : Program} {w : World} {K : PySem.W.Frag} {mg : Str → Option Value} {base : Heap}
theorem ok_check_lanes (T : Tx K mg) (F_is_name : Fn P w K mg base 4 (He.ga K "is_name") ["word"] (ct_is_name K)) (Z_BadName : Xn P w K mg base (He.ga K "BadName") "name") : Fn P w K mg base 6 (He.ga K "check_lanes") ["lanes"] (ct_check_lanes K) := by
  obtain ⟨fd, F⟩ := T.d_check_lanes
  refine fn_ok F sc_check_lanes (fun _ _ _ _ _ _ us hl => match us, hl with | [_], _ => rfl) ct1_len (fun cdv A outer s H E hr => ⟨_, (pss_cons (ps_if (pt_cmpR (op_eqP (by have := (hr).units; exact this)) (pe_callB call_lenU rfl T.n_len (by decide +kernel) (pa_cons (pv 0) pa_nil)) pe_int (nomark _))
      (pss_one (ps_raise rfl (takes_of rfl rfl rfl rfl) (pmk_zero PySem.F.excBase_ValueError T.x0_EmptyWalk.1 T.g_EmptyWalk.1 T.x0_EmptyWalk.2.1 (raises_own T.x0_EmptyWalk.2.2.1 T.x0_EmptyWalk.2.2.2) rfl)))
      pss_nil)
      (pss_one (ps_for (passes_of rfl) rfl (pi_seq (pv 0)) (pg_name (i := 1) sc_check_lanes.nd rfl (by first | exact Or.inl rfl | exact Or.inr rfl)) (pss_one (ps_if (pt_not (pt_val (pe_call (F_is_name.up (by decide)).ok hr rfl T.g_is_name.1 T.g_is_name.2 (F_is_name.up (by decide)).bn .nil (pass_own rfl rfl rfl rfl) (pa_cons (pv 1) pa_nil))))
      (pss_one (ps_raise rfl (takes_of rfl rfl rfl rfl) (pmk_oex Z_BadName.xc.oex Z_BadName.all.1 Z_BadName.all.2.1 Z_BadName.all.2.2.1 (hr.mono (by decide)) Z_BadName.all.2.2.2 .nil passes_no rfl T.g_BadName.1 (pa_cons (pv 1) pa_nil))))
      pss_nil))))), fun ws ka out B F0 Q hC hR hX => ?_⟩)
  obtain ⟨a, rfl, t, ds, b, l, hf, hd, rfl⟩ := hC
  cases ds with
  | nil => exact q_when ((et_test (ev_eqI (ev_len (ev_var rfl) l) ev_int)).to (b := true) rfl) (fun _ => g_raise0 hX ⟨rfl, rfl⟩) (fun z => by cases z)
  | cons d0 ds0 =>
    refine q_when ((et_test (ev_eqI (ev_len (ev_var rfl) l) ev_int)).to (b := false) ?_) (fun z => by cases z) (fun _ => ?_)
    · refine beq_eq_false_iff_ne.mpr fun z => ?_
      rw [List.length_cons] at z
      omega
    generalize hds : d0 :: ds0 = ds at *
    refine g_forn (ei_seq (ev_var rfl) l) (fun i ro2 ka2 => (∃ v, ro2 = [some a, v]) ∧ ka2 = ka ∧ ∀ d ∈ ds.take i, isNmD d = true) ⟨⟨none, rfl⟩, rfl, fun d h => by simp at h⟩ (fun i ro2 ka2 ⟨_, e, _⟩ => e ▸ l.stay) (fun i w2 ro2 ka2 ta' hw ⟨⟨v, e1⟩, e2, e3⟩ => ?_) (fun ro2 ka2 ta' ⟨⟨v, e1⟩, e2, e3⟩ _ => ?_)
    · subst e1 e2
      rw [List.getElem?_map] at hw
      cases hx : ds[i]? with
      | none => rw [hx] at hw; cases hw
      | some d =>
        rw [hx] at hw
        have hm : d ∈ ds := List.mem_of_getElem? hx
        have hw2 : part b d = w2 := by cases hw; rfl
        rw [part_of hf hm] at hw2
        subst hw2
        refine g_if (et_not (et_B (ev_callP (ea1 (ev_var rfl)) ⟨_, rfl, d, rfl, hd d hm, rfl, rfl⟩))) (fun hb => g_raise1 hX (ea1 (ev_var rfl)) Z_BadName.xc.oex Z_BadName.no ?_) (fun hb => g_next (g_jp ⟨⟨_, rfl⟩, rfl, fun e he => ?_⟩))
        · rw [ck_bad (find_first (p := fun d => !isNmD d) (fun e he => by rw [e3 e he]; rfl) hx hb)]
          exact ⟨rfl, rfl⟩
        · rw [take_succ_some hx] at he
          rcases List.mem_append.mp he with he | he
          · exact e3 e he
          · rw [List.mem_singleton.mp he]
            simpa using hb
    · subst e1 e2
      rw [List.length_map, List.take_length] at e3
      refine g_end hR ?_
      rw [ck_ok (by rw [← hds]; simp) e3]
      exact ⟨rfl, rfl⟩
end
def ct_crossed (K : PySem.W.Frag) : Ct := Ct2 fun a b ka out => ∃ xs ys : List Nat, a = .val (.lst (nmD xs)) ∧ b = .val (.lst (nmD ys)) ∧ xs.length * ys.length < 100000 ∧ ka = [] ∧ out = Rt (.lst ((crN xs ys).map prD)) []
section
variable {P : Program} {w : World} {K : PySem.W.Frag} {mg : Str → Option Value} {base : Heap}
theorem ok_crossed (T : Tx K mg) : Fn P w K mg base 4 (He.ga K "crossed") ["one", "two"] (ct_crossed K) := by
  obtain ⟨fd, F⟩ := T.d_crossed
  refine fn_ok F sc_crossed (fun _ _ _ _ _ _ us hl => match us, hl with | [_, _], _ => rfl) ct2_len (fun cdv A outer s H E hr => ⟨_, (pss_one (ps_ret (pe_lc2 (own := [("first", 2), ("second", 3)]) (vs1 := [3]) (tt := tYes) (wi1 := (iSeq K (tVar 1))) (tt1 := tYes) (te := (tTup (tCons (tVar 2) (tCons (tVar 3) tNil)))) rfl sc_crossed.nd (pi_seq (pv 0)) (blk_ok ["one", "two", "first", "second"] (defScope s_crossed) rfl rfl (by decide +kernel)) (by decide) (fun _ _ _ _ _ => (pg_name (i := 2) sc_crossed.nd rfl (by first | exact Or.inl rfl | exact Or.inr rfl))) (fun _ _ _ _ _ => pts_nil) (fun _ _ _ _ _ => (pi_seq (pv 1))) (fun _ _ _ _ _ => (pg_name (i := 3) sc_crossed.nd rfl (by first | exact Or.inl rfl | exact Or.inr rfl))) (fun _ _ _ _ _ => pts_nil) (fun _ _ _ _ _ => (pe_tup (pa_cons (pv 2) (pa_cons (pv 3) pa_nil))))))), fun ws ka out B F0 Q hC hR hX => ?_⟩)
  obtain ⟨a, b, rfl, xs, ys, rfl, rfl, hz, rfl, rfl⟩ := hC
  refine g_ret hR ((evn_lc2 (xs := xs) (ys := ys) (f := fun n : Nat => .val (.int (n : Int))) (f2 := fun n : Nat => .val (.int (n : Int))) (d := fun x y => prD (x, y)) (ei_map (ts := xs) (f := fun n : Nat => D.int (n : Int)) (ev_var rfl)) (by decide) hz (fun x k => ei_map (ts := ys) (f := fun n : Nat => D.int (n : Int)) (ev_var rfl)) (fun x y k => ev_tup (ds := [.int (x : Int), .int (y : Int)]) (ea2 (ev_var rfl) (ev_var rfl)) (Nat.le_of_ble_eq_true rfl))).lst.to ?_) ⟨rfl, rfl⟩
  unfold crN
  rw [List.map_flatMap]
  congr 3
  funext x
  rw [List.map_map]
  rfl
end
def ct_read_tree (d : Nat) (K : PySem.W.Frag) : Ct := Ct2 fun a b ka out => ∃ (t : Tr) (s : Nat), a = .val (t.d false) ∧ b = .val (.int (s : Int)) ∧ t.dep < d ∧ t.sm ∧ ka = [] ∧ out = Rt (rdT (mcT t s)) []
theorem ct_read_tree_zero (K : PySem.W.Frag) : ∀ ws ka out, ¬ ct_read_tree 0 K ws ka out := fun ws ka out ⟨_, _, _, t, s, _, _, hd, _⟩ => absurd hd (Nat.not_lt_zero _)
section
variable {P : Program} {w : World} {K : PySem.W.Frag} {mg : Str → Option Value} {base : Heap}
theorem ok_read_tree (T : Tx K mg) (F_crossed : Fn P w K mg base 4 (He.ga K "crossed") ["one", "two"] (ct_crossed K)) : ∀ d : Nat, Fn P w K mg base (2 * d + 6) (He.ga K "read_tree") ["tree", "start"] (ct_read_tree d K) := by
  obtain ⟨fd, F⟩ := T.d_read_tree
  intro d
  induction d with
  | zero => exact fn_vac F sc_read_tree (fun _ _ _ _ _ _ us hl => match us, hl with | [_, _], _ => rfl) (ct_read_tree_zero K)
  | succ d F_read_tree => ?_
  refine fn_ok F sc_read_tree (fun _ _ _ _ _ _ us hl => match us, hl with | [_, _], _ => rfl) ct2_len (fun cdv A outer s H E hr => ⟨_, (pss_cons (ps_if (PW.pt (pw_or (pt_cmpR (op_eqP (by have := (hr).units; exact this)) (pe_ix ix_seq (pv 0) pe_int fun _ _ => rfl) pe_str (nomark _)) (pw_or1 (pt_cmpR (op_eqP (by have := (hr).units; exact this)) (pe_ix ix_seq (pv 0) pe_int fun _ _ => rfl) pe_str (nomark _)))))
      (pss_one (ps_ret (pe_tup (pa_cons (pe_lst (pa_cons (pe_tup (pa_cons (pe_cmpR (op_eqP (by have := (hr).units; exact this)) (pe_ix ix_seq (pv 0) pe_int fun _ _ => rfl) pe_str (nomark _)) (pa_cons (pe_ix ix_seq (pv 0) pe_int fun _ _ => rfl) pa_nil))) pa_nil)) (pa_cons (pe_lst (pa_cons (pv 1) pa_nil)) (pa_cons (pe_lst (pa_cons (pv 1) pa_nil)) (pa_cons (pe_lst pa_nil) (pa_cons pe_bl pa_nil))))))))
      pss_nil)
      (pss_cons (ps_set (i := 2) sc_read_tree.nd rfl (by first | exact Or.inl rfl | exact Or.inr rfl) (pe_call (F_read_tree.up (by omega)).ok hr rfl T.g_read_tree.1 T.g_read_tree.2 (F_read_tree.up (by omega)).bn .nil (pass_own rfl rfl rfl rfl) (pa_cons (pe_ix ix_seq (pv 0) pe_int fun _ _ => rfl) (pa_cons (pv 1) pa_nil))))
      (pss_cons (ps_if (pt_cmpR (op_eqP (by have := (hr).units; exact this)) (pe_ix ix_seq (pv 0) pe_int fun _ _ => rfl) pe_str (nomark _))
      (pss_one (ps_ret (pe_tup (pa_cons (pe_ix ix_seq (pv 2) pe_int fun _ _ => rfl) (pa_cons (pe_ix ix_seq (pv 2) pe_int fun _ _ => rfl) (pa_cons (pe_ix ix_seq (pv 2) pe_int fun _ _ => rfl) (pa_cons (pe_op op_addU (pe_ix ix_seq (pv 2) pe_int fun _ _ => rfl) (pe_call (F_crossed.up (by omega)).ok hr rfl T.g_crossed.1 T.g_crossed.2 (F_crossed.up (by omega)).bn .nil (pass_own rfl rfl rfl rfl) (pa_cons (pe_ix ix_seq (pv 2) pe_int fun _ _ => rfl) (pa_cons (pe_ix ix_seq (pv 2) pe_int fun _ _ => rfl) pa_nil)))) (pa_cons pe_bl pa_nil))))))))
      pss_nil)
      (pss_cons (ps_if (pt_cmpR (op_eqP (by have := (hr).units; exact this)) (pe_ix ix_seq (pv 0) pe_int fun _ _ => rfl) pe_str (nomark _))
      (pss_one (ps_ret (pe_tup (pa_cons (pe_ix ix_seq (pv 2) pe_int fun _ _ => rfl) (pa_cons (pe_ix ix_seq (pv 2) pe_int fun _ _ => rfl) (pa_cons (pe_ix ix_seq (pv 2) pe_int fun _ _ => rfl) (pa_cons (pe_ix ix_seq (pv 2) pe_int fun _ _ => rfl) (pa_cons pe_bl pa_nil))))))))
      pss_nil)
      (pss_cons (ps_set (i := 3) sc_read_tree.nd rfl (by first | exact Or.inl rfl | exact Or.inr rfl) (pe_call (F_read_tree.up (by omega)).ok hr rfl T.g_read_tree.1 T.g_read_tree.2 (F_read_tree.up (by omega)).bn .nil (pass_own rfl rfl rfl rfl) (pa_cons (pe_ix ix_seq (pv 0) pe_int fun _ _ => rfl) (pa_cons (pe_op op_addU (pv 1) (pe_callB call_lenU rfl T.n_len (by decide +kernel) (pa_cons (pe_ix ix_seq (pv 2) pe_int fun _ _ => rfl) pa_nil))) pa_nil))))
      (pss_cons (ps_if (pt_cmpR (op_eqP (by have := (hr).units; exact this)) (pe_ix ix_seq (pv 0) pe_int fun _ _ => rfl) pe_str (nomark _))
      (pss_one (ps_ret (pe_tup (pa_cons (pe_op op_addU (pe_ix ix_seq (pv 2) pe_int fun _ _ => rfl) (pe_ix ix_seq (pv 3) pe_int fun _ _ => rfl)) (pa_cons (pe_op op_addU (pe_ix ix_seq (pv 2) pe_int fun _ _ => rfl) (pe_ix ix_seq (pv 3) pe_int fun _ _ => rfl)) (pa_cons (pe_op op_addU (pe_ix ix_seq (pv 2) pe_int fun _ _ => rfl) (pe_ix ix_seq (pv 3) pe_int fun _ _ => rfl)) (pa_cons (pe_op op_addU (pe_ix ix_seq (pv 2) pe_int fun _ _ => rfl) (pe_ix ix_seq (pv 3) pe_int fun _ _ => rfl)) (pa_cons (pe_or (pe_ix ix_seq (pv 2) pe_int fun _ _ => rfl) (pe_one (pe_ix ix_seq (pv 3) pe_int fun _ _ => rfl))) pa_nil))))))))
      pss_nil)
      (pss_cons (ps_set (i := 4) sc_read_tree.nd rfl (by first | exact Or.inl rfl | exact Or.inr rfl) (pe_ifExp (pt_val (pe_ix ix_seq (pv 2) pe_int fun _ _ => rfl)) (pe_op op_addU (pe_ix ix_seq (pv 2) pe_int fun _ _ => rfl) (pe_ix ix_seq (pv 3) pe_int fun _ _ => rfl)) (pe_ix ix_seq (pv 2) pe_int fun _ _ => rfl)))
      (pss_cons (ps_set (i := 5) sc_read_tree.nd rfl (by first | exact Or.inl rfl | exact Or.inr rfl) (pe_ifExp (pt_val (pe_ix ix_seq (pv 3) pe_int fun _ _ => rfl)) (pe_op op_addU (pe_ix ix_seq (pv 2) pe_int fun _ _ => rfl) (pe_ix ix_seq (pv 3) pe_int fun _ _ => rfl)) (pe_ix ix_seq (pv 3) pe_int fun _ _ => rfl)))
      (pss_one (ps_ret (pe_tup (pa_cons (pe_op op_addU (pe_ix ix_seq (pv 2) pe_int fun _ _ => rfl) (pe_ix ix_seq (pv 3) pe_int fun _ _ => rfl)) (pa_cons (pv 4) (pa_cons (pv 5) (pa_cons (pe_op op_addU (pe_op op_addU (pe_ix ix_seq (pv 2) pe_int fun _ _ => rfl) (pe_ix ix_seq (pv 3) pe_int fun _ _ => rfl)) (pe_call (F_crossed.up (by omega)).ok hr rfl T.g_crossed.1 T.g_crossed.2 (F_crossed.up (by omega)).bn .nil (pass_own rfl rfl rfl rfl) (pa_cons (pe_ix ix_seq (pv 2) pe_int fun _ _ => rfl) (pa_cons (pe_ix ix_seq (pv 3) pe_int fun _ _ => rfl) pa_nil)))) (pa_cons (pe_and (pe_ix ix_seq (pv 2) pe_int fun _ _ => rfl) (pe_one (pe_ix ix_seq (pv 3) pe_int fun _ _ => rfl))) pa_nil)))))))))))))))), fun ws ka out B F0 Q hC hR hX => ?_⟩)
  obtain ⟨a, b, rfl, t, s, rfl, rfl, hd, hs, rfl, rfl⟩ := hC
  cases t with
  | «at» k ns =>
    refine q_when (b := true) ((et_or (et_test (ev_eqS (ev_ixV (ev_var rfl) ev_int .vt at0) ev_str)) (fun _ => et_test (ev_eqS (ev_ixV (ev_var rfl) ev_int .vt at0) ev_str))).to (by cases k <;> rfl)) (fun _ => ?_) (fun z => by cases z)
    refine g_ret hR (ev_tup (ds := [.lst [atD (k, ns)], .lst (nmD [s]), .lst (nmD [s]), .lst [], .bl false]) (ea_cons (evn_lst (ds := [atD (k, ns)]) (ea1 (ev_tup (ds := [.bl k, .tup (stD ns)]) (ea2 ((ev_eqS (ev_ixV (ev_var rfl) ev_int .vt at0) ev_str).to (by cases k <;> rfl)) (ev_ixV (ev_var rfl) ev_int .vt (atI_nat (j := 1) rfl))) (Nat.le_of_ble_eq_true rfl))) (Nat.le_of_ble_eq_true rfl)).lst (ea_cons (evn_lst (ds := nmD [s]) (ea1 (ev_var rfl)) (Nat.le_of_ble_eq_true rfl)).lst (ea_cons (evn_lst (ds := nmD [s]) (ea1 (ev_var rfl)) (Nat.le_of_ble_eq_true rfl)).lst (ea_cons (evn_lst (ds := []) ea_nil (Nat.le_of_ble_eq_true rfl)).lst (ea1 ev_bl))))) (Nat.le_of_ble_eq_true rfl)) ⟨rfl, rfl⟩
  | rep a =>
    have f := hs.2 s
    have fa := hs.1.fits s
    have hda : a.dep < d := by have : a.dep + 1 < d + 1 := hd; omega
    refine q_when (b := false) ((et_or (et_test (ev_eqS (ev_ixV (ev_var rfl) ev_int .vt at0) ev_str)) (fun _ => et_test (ev_eqS (ev_ixV (ev_var rfl) ev_int .vt at0) ev_str))).to rfl) (fun z => by cases z) (fun _ => ?_)
    refine q_asg (w := .val (rdT (mcT a s))) (ev_callP (ea2 (ev_ixV (ev_var rfl) ev_int .vt (atI_nat (j := 1) rfl)) (ev_var rfl)) ⟨_, _, rfl, a, s, rfl, rfl, hda, hs.1, rfl, rfl⟩) ?_
    refine q_when (b := true) ((et_test (ev_eqS (ev_ixV (ev_var rfl) ev_int .vt at0) ev_str)).to rfl) (fun _ => ?_) (fun z => by cases z)
    have fp := f.p
    have hm : (mcT (.rep a) s).pr = (mcT a s).pr ++ crN (mcT a s).la (mcT a s).fi := rfl
    rw [hm, List.length_append] at fp
    have i1 : atI [D.lst ((mcT a s).at_.map atD), .lst (nmD (mcT a s).fi), .lst (nmD (mcT a s).la), .lst ((mcT a s).pr.map prD), .bl (mcT a s).op] 1 = some (.lst (nmD (mcT a s).fi)) := atI_nat (j := 1) rfl
    have i2 : atI [D.lst ((mcT a s).at_.map atD), .lst (nmD (mcT a s).fi), .lst (nmD (mcT a s).la), .lst ((mcT a s).pr.map prD), .bl (mcT a s).op] 2 = some (.lst (nmD (mcT a s).la)) := atI_nat (j := 2) rfl
    have i3 : atI [D.lst ((mcT a s).at_.map atD), .lst (nmD (mcT a s).fi), .lst (nmD (mcT a s).la), .lst ((mcT a s).pr.map prD), .bl (mcT a s).op] 3 = some (.lst ((mcT a s).pr.map prD)) := atI_nat (j := 3) rfl
    refine g_ret hR ((ev_tup (ds := [.lst ((mcT a s).at_.map atD), .lst (nmD (mcT a s).fi), .lst (nmD (mcT a s).la), .lst ((mcT a s).pr.map prD ++ (crN (mcT a s).la (mcT a s).fi).map prD), .bl true]) (ea_cons (ev_ixV (ev_var rfl) ev_int .vt at0) (ea_cons (ev_ixV (ev_var rfl) ev_int .vt i1) (ea_cons (ev_ixV (ev_var rfl) ev_int .vt i2) (ea_cons (ev_catL (ev_ixV (ev_var rfl) ev_int .vt i3) (ev_callP (ea2 (ev_ixV (ev_var rfl) ev_int .vt i2) (ev_ixV (ev_var rfl) ev_int .vt i1)) ⟨_, _, rfl, _, _, rfl, rfl, ?h1, rfl, rfl⟩) ?h2) (ea1 ev_bl))))) (Nat.le_of_ble_eq_true rfl)).to ?h3) ⟨rfl, rfl⟩
    case h1 =>
      rw [crN_len] at fp
      omega
    case h2 =>
      rw [List.length_map, List.length_map]
      omega
    case h3 =>
      rw [← List.map_append]
      rfl
  | opt a =>
    have hda : a.dep < d := by have : a.dep + 1 < d + 1 := hd; omega
    refine q_when (b := false) ((et_or (et_test (ev_eqS (ev_ixV (ev_var rfl) ev_int .vt at0) ev_str)) (fun _ => et_test (ev_eqS (ev_ixV (ev_var rfl) ev_int .vt at0) ev_str))).to rfl) (fun z => by cases z) (fun _ => ?_)
    refine q_asg (w := .val (rdT (mcT a s))) (ev_callP (ea2 (ev_ixV (ev_var rfl) ev_int .vt (atI_nat (j := 1) rfl)) (ev_var rfl)) ⟨_, _, rfl, a, s, rfl, rfl, hda, hs.1, rfl, rfl⟩) ?_
    refine q_when (b := false) ((et_test (ev_eqS (ev_ixV (ev_var rfl) ev_int .vt at0) ev_str)).to rfl) (fun z => by cases z) (fun _ => ?_)
    refine q_when (b := true) ((et_test (ev_eqS (ev_ixV (ev_var rfl) ev_int .vt at0) ev_str)).to rfl) (fun _ => ?_) (fun z => by cases z)
    have i0 : atI [D.lst ((mcT a s).at_.map atD), .lst (nmD (mcT a s).fi), .lst (nmD (mcT a s).la), .lst ((mcT a s).pr.map prD), .bl (mcT a s).op] 0 = some (.lst ((mcT a s).at_.map atD)) := atI_nat (j := 0) rfl
    have i1 : atI [D.lst ((mcT a s).at_.map atD), .lst (nmD (mcT a s).fi), .lst (nmD (mcT a s).la), .lst ((mcT a s).pr.map prD), .bl (mcT a s).op] 1 = some (.lst (nmD (mcT a s).fi)) := atI_nat (j := 1) rfl
    have i2 : atI [D.lst ((mcT a s).at_.map atD), .lst (nmD (mcT a s).fi), .lst (nmD (mcT a s).la), .lst ((mcT a s).pr.map prD), .bl (mcT a s).op] 2 = some (.lst (nmD (mcT a s).la)) := atI_nat (j := 2) rfl
    have i3 : atI [D.lst ((mcT a s).at_.map atD), .lst (nmD (mcT a s).fi), .lst (nmD (mcT a s).la), .lst ((mcT a s).pr.map prD), .bl (mcT a s).op] 3 = some (.lst ((mcT a s).pr.map prD)) := atI_nat (j := 3) rfl
    have i4 : atI [D.lst ((mcT a s).at_.map atD), .lst (nmD (mcT a s).fi), .lst (nmD (mcT a s).la), .lst ((mcT a s).pr.map prD), .bl (mcT a s).op] 4 = some (.bl (mcT a s).op) := atI_nat (j := 4) rfl
    exact g_ret hR (ev_tup (ds := [.lst ((mcT a s).at_.map atD), .lst (nmD (mcT a s).fi), .lst (nmD (mcT a s).la), .lst ((mcT a s).pr.map prD), .bl true]) (ea_cons (ev_ixV (ev_var rfl) ev_int .vt i0) (ea_cons (ev_ixV (ev_var rfl) ev_int .vt i1) (ea_cons (ev_ixV (ev_var rfl) ev_int .vt i2) (ea_cons (ev_ixV (ev_var rfl) ev_int .vt i3) (ea1 ev_bl))))) (Nat.le_of_ble_eq_true rfl)) ⟨rfl, rfl⟩
  | either a b =>
    have hda : a.dep < d := by have : max a.dep b.dep + 1 < d + 1 := hd; omega
    have hdb : b.dep < d := by have : max a.dep b.dep + 1 < d + 1 := hd; omega
    have f := hs.2.2 s
    have fa := hs.1.fits s
    have fb := hs.2.1.fits (s + (mcT a s).at_.length)
    refine q_when (b := false) ((et_or (et_test (ev_eqS (ev_ixV (ev_var rfl) ev_int .vt at0) ev_str)) (fun _ => et_test (ev_eqS (ev_ixV (ev_var rfl) ev_int .vt at0) ev_str))).to rfl) (fun z => by cases z) (fun _ => ?_)
    refine q_asg (w := .val (rdT (mcT a s))) (ev_callP (ea2 (ev_ixV (ev_var rfl) ev_int .vt (atI_nat (j := 1) rfl)) (ev_var rfl)) ⟨_, _, rfl, a, s, rfl, rfl, hda, hs.1, rfl, rfl⟩) ?_
    refine q_when (b := false) ((et_test (ev_eqS (ev_ixV (ev_var rfl) ev_int .vt at0) ev_str)).to rfl) (fun z => by cases z) (fun _ => ?_)
    refine q_when (b := false) ((et_test (ev_eqS (ev_ixV (ev_var rfl) ev_int .vt at0) ev_str)).to rfl) (fun z => by cases z) (fun _ => ?_)
    have i0 : atI [D.lst ((mcT a s).at_.map atD), .lst (nmD (mcT a s).fi), .lst (nmD (mcT a s).la), .lst ((mcT a s).pr.map prD), .bl (mcT a s).op] 0 = some (.lst ((mcT a s).at_.map atD)) := atI_nat (j := 0) rfl
    have i1 : atI [D.lst ((mcT a s).at_.map atD), .lst (nmD (mcT a s).fi), .lst (nmD (mcT a s).la), .lst ((mcT a s).pr.map prD), .bl (mcT a s).op] 1 = some (.lst (nmD (mcT a s).fi)) := atI_nat (j := 1) rfl
    have i2 : atI [D.lst ((mcT a s).at_.map atD), .lst (nmD (mcT a s).fi), .lst (nmD (mcT a s).la), .lst ((mcT a s).pr.map prD), .bl (mcT a s).op] 2 = some (.lst (nmD (mcT a s).la)) := atI_nat (j := 2) rfl
    have i3 : atI [D.lst ((mcT a s).at_.map atD), .lst (nmD (mcT a s).fi), .lst (nmD (mcT a s).la), .lst ((mcT a s).pr.map prD), .bl (mcT a s).op] 3 = some (.lst ((mcT a s).pr.map prD)) := atI_nat (j := 3) rfl
    have i4 : atI [D.lst ((mcT a s).at_.map atD), .lst (nmD (mcT a s).fi), .lst (nmD (mcT a s).la), .lst ((mcT a s).pr.map prD), .bl (mcT a s).op] 4 = some (.bl (mcT a s).op) := atI_nat (j := 4) rfl
    refine q_asg (w := .val (rdT (mcT b (s + (mcT a s).at_.length)))) (ev_callP (ea2 (ev_ixV (ev_var rfl) ev_int .vt (atI_nat (j := 2) rfl)) ((ev_addI (ev_var rfl) (ev_len (ev_ixV (ev_var rfl) ev_int .vt i0) .vl)).to (w' := .val (.int ((s + (mcT a s).at_.length : Nat) : Int))) (by rw [List.length_map, Int.natCast_add]))) ⟨_, _, rfl, b, s + (mcT a s).at_.length, rfl, rfl, hdb, hs.2.1, rfl, rfl⟩) ?_
    generalize hm : mcT a s = m at *
    generalize hn : mcT b (s + m.at_.length) = n at *
    have k0 : atI [D.lst (n.at_.map atD), .lst (nmD n.fi), .lst (nmD n.la), .lst (n.pr.map prD), .bl n.op] 0 = some (.lst (n.at_.map atD)) := atI_nat (j := 0) rfl
    have k1 : atI [D.lst (n.at_.map atD), .lst (nmD n.fi), .lst (nmD n.la), .lst (n.pr.map prD), .bl n.op] 1 = some (.lst (nmD n.fi)) := atI_nat (j := 1) rfl
    have k2 : atI [D.lst (n.at_.map atD), .lst (nmD n.fi), .lst (nmD n.la), .lst (n.pr.map prD), .bl n.op] 2 = some (.lst (nmD n.la)) := atI_nat (j := 2) rfl
    have k3 : atI [D.lst (n.at_.map atD), .lst (nmD n.fi), .lst (nmD n.la), .lst (n.pr.map prD), .bl n.op] 3 = some (.lst (n.pr.map prD)) := atI_nat (j := 3) rfl
    have k4 : atI [D.lst (n.at_.map atD), .lst (nmD n.fi), .lst (nmD n.la), .lst (n.pr.map prD), .bl n.op] 4 = some (.bl n.op) := atI_nat (j := 4) rfl
    refine q_when (b := true) ((et_test (ev_eqS (ev_ixV (ev_var rfl) ev_int .vt at0) ev_str)).to rfl) (fun _ => ?_) (fun z => by cases z)
    have fp := f.p
    have e : mcT (.either a b) s = ⟨m.at_ ++ n.at_, m.fi ++ n.fi, m.la ++ n.la, m.pr ++ n.pr, m.op || n.op⟩ := by subst hm hn; rfl
    rw [e] at fp hR
    have fp : (m.pr ++ n.pr).length ≤ 90000 := fp
    rw [List.length_append] at fp
    have z : ∀ xs ys : List Nat, xs.length ≤ 300 → ys.length ≤ 300 → (nmD xs).length + (nmD ys).length ≤ 100000 := fun xs ys h1 h2 => by
      unfold nmD
      rw [List.length_map, List.length_map]
      omega
    refine g_ret hR ((ev_tup (ds := [.lst (m.at_.map atD ++ n.at_.map atD), .lst (nmD m.fi ++ nmD n.fi), .lst (nmD m.la ++ nmD n.la), .lst (m.pr.map prD ++ n.pr.map prD), .bl (m.op || n.op)]) (ea_cons (ev_catL (ev_ixV (ev_var rfl) ev_int .vt i0) (ev_ixV (ev_var rfl) ev_int .vt k0) ?h1) (ea_cons (ev_catL (ev_ixV (ev_var rfl) ev_int .vt i1) (ev_ixV (ev_var rfl) ev_int .vt k1) (z _ _ fa.f fb.f)) (ea_cons (ev_catL (ev_ixV (ev_var rfl) ev_int .vt i2) (ev_ixV (ev_var rfl) ev_int .vt k2) (z _ _ fa.l fb.l)) (ea_cons (ev_catL (ev_ixV (ev_var rfl) ev_int .vt i3) (ev_ixV (ev_var rfl) ev_int .vt k3) ?h2) (ea1 (ev_orV (ev_ixV (ev_var rfl) ev_int .vt i4) (fun _ => (ev_ixV (ev_var rfl) ev_int .vt k4)))))))) (Nat.le_of_ble_eq_true rfl)).to ?h3) ⟨rfl, rfl⟩
    case h1 =>
      have h1 := fa.a
      have h2 := fb.a
      rw [List.length_map, List.length_map]
      omega
    case h2 =>
      rw [List.length_map, List.length_map]
      omega
    case h3 =>
      unfold nmD
      rw [← List.map_append, ← List.map_append, ← List.map_append, ← List.map_append]
      rfl
  | join a b =>
    have hda : a.dep < d := by have : max a.dep b.dep + 1 < d + 1 := hd; omega
    have hdb : b.dep < d := by have : max a.dep b.dep + 1 < d + 1 := hd; omega
    have f := hs.2.2 s
    have fa := hs.1.fits s
    have fb := hs.2.1.fits (s + (mcT a s).at_.length)
    refine q_when (b := false) ((et_or (et_test (ev_eqS (ev_ixV (ev_var rfl) ev_int .vt at0) ev_str)) (fun _ => et_test (ev_eqS (ev_ixV (ev_var rfl) ev_int .vt at0) ev_str))).to rfl) (fun z => by cases z) (fun _ => ?_)
    refine q_asg (w := .val (rdT (mcT a s))) (ev_callP (ea2 (ev_ixV (ev_var rfl) ev_int .vt (atI_nat (j := 1) rfl)) (ev_var rfl)) ⟨_, _, rfl, a, s, rfl, rfl, hda, hs.1, rfl, rfl⟩) ?_
    refine q_when (b := false) ((et_test (ev_eqS (ev_ixV (ev_var rfl) ev_int .vt at0) ev_str)).to rfl) (fun z => by cases z) (fun _ => ?_)
    refine q_when (b := false) ((et_test (ev_eqS (ev_ixV (ev_var rfl) ev_int .vt at0) ev_str)).to rfl) (fun z => by cases z) (fun _ => ?_)
    have i0 : atI [D.lst ((mcT a s).at_.map atD), .lst (nmD (mcT a s).fi), .lst (nmD (mcT a s).la), .lst ((mcT a s).pr.map prD), .bl (mcT a s).op] 0 = some (.lst ((mcT a s).at_.map atD)) := atI_nat (j := 0) rfl
    have i1 : atI [D.lst ((mcT a s).at_.map atD), .lst (nmD (mcT a s).fi), .lst (nmD (mcT a s).la), .lst ((mcT a s).pr.map prD), .bl (mcT a s).op] 1 = some (.lst (nmD (mcT a s).fi)) := atI_nat (j := 1) rfl
    have i2 : atI [D.lst ((mcT a s).at_.map atD), .lst (nmD (mcT a s).fi), .lst (nmD (mcT a s).la), .lst ((mcT a s).pr.map prD), .bl (mcT a s).op] 2 = some (.lst (nmD (mcT a s).la)) := atI_nat (j := 2) rfl
    have i3 : atI [D.lst ((mcT a s).at_.map atD), .lst (nmD (mcT a s).fi), .lst (nmD (mcT a s).la), .lst ((mcT a s).pr.map prD), .bl (mcT a s).op] 3 = some (.lst ((mcT a s).pr.map prD)) := atI_nat (j := 3) rfl
    have i4 : atI [D.lst ((mcT a s).at_.map atD), .lst (nmD (mcT a s).fi), .lst (nmD (mcT a s).la), .lst ((mcT a s).pr.map prD), .bl (mcT a s).op] 4 = some (.bl (mcT a s).op) := atI_nat (j := 4) rfl
    refine q_asg (w := .val (rdT (mcT b (s + (mcT a s).at_.length)))) (ev_callP (ea2 (ev_ixV (ev_var rfl) ev_int .vt (atI_nat (j := 2) rfl)) ((ev_addI (ev_var rfl) (ev_len (ev_ixV (ev_var rfl) ev_int .vt i0) .vl)).to (w' := .val (.int ((s + (mcT a s).at_.length : Nat) : Int))) (by rw [List.length_map, Int.natCast_add]))) ⟨_, _, rfl, b, s + (mcT a s).at_.length, rfl, rfl, hdb, hs.2.1, rfl, rfl⟩) ?_
    generalize hm : mcT a s = m at *
    generalize hn : mcT b (s + m.at_.length) = n at *
    have k0 : atI [D.lst (n.at_.map atD), .lst (nmD n.fi), .lst (nmD n.la), .lst (n.pr.map prD), .bl n.op] 0 = some (.lst (n.at_.map atD)) := atI_nat (j := 0) rfl
    have k1 : atI [D.lst (n.at_.map atD), .lst (nmD n.fi), .lst (nmD n.la), .lst (n.pr.map prD), .bl n.op] 1 = some (.lst (nmD n.fi)) := atI_nat (j := 1) rfl
    have k2 : atI [D.lst (n.at_.map atD), .lst (nmD n.fi), .lst (nmD n.la), .lst (n.pr.map prD), .bl n.op] 2 = some (.lst (nmD n.la)) := atI_nat (j := 2) rfl
    have k3 : atI [D.lst (n.at_.map atD), .lst (nmD n.fi), .lst (nmD n.la), .lst (n.pr.map prD), .bl n.op] 3 = some (.lst (n.pr.map prD)) := atI_nat (j := 3) rfl
    have k4 : atI [D.lst (n.at_.map atD), .lst (nmD n.fi), .lst (nmD n.la), .lst (n.pr.map prD), .bl n.op] 4 = some (.bl n.op) := atI_nat (j := 4) rfl
    refine q_when (b := false) ((et_test (ev_eqS (ev_ixV (ev_var rfl) ev_int .vt at0) ev_str)).to rfl) (fun z => by cases z) (fun _ => ?_)
    have fp := f.p
    have e : mcT (.join a b) s = ⟨m.at_ ++ n.at_, if m.op then m.fi ++ n.fi else m.fi, if n.op then m.la ++ n.la else n.la, m.pr ++ n.pr ++ crN m.la n.fi, m.op && n.op⟩ := by subst hm hn; rfl
    rw [e] at fp hR
    have fp : (m.pr ++ n.pr ++ crN m.la n.fi).length ≤ 90000 := fp
    rw [List.length_append, List.length_append] at fp
    have fc := crN_len m.la n.fi
    have z : ∀ xs ys : List Nat, xs.length ≤ 300 → ys.length ≤ 300 → (nmD xs).length + (nmD ys).length ≤ 100000 := fun xs ys h1 h2 => by
      unfold nmD
      rw [List.length_map, List.length_map]
      omega
    have nap : ∀ xs ys : List Nat, nmD xs ++ nmD ys = nmD (xs ++ ys) := fun xs ys => List.map_append.symm
    refine q_asg (w := .val (.lst (nmD (if m.op then m.fi ++ n.fi else m.fi)))) (ev_if (b := m.op) (et_B (ev_ixV (ev_var rfl) ev_int .vt i4)) (fun o => (ev_catL (ev_ixV (ev_var rfl) ev_int .vt i1) (ev_ixV (ev_var rfl) ev_int .vt k1) (z _ _ fa.f fb.f)).to (by rw [if_pos o, nap])) (fun o => EvD.to (ev_ixV (ev_var rfl) ev_int .vt i1) (by rw [if_neg (by rw [o]; decide)]))) ?_
    refine q_asg (w := .val (.lst (nmD (if n.op then m.la ++ n.la else n.la)))) (ev_if (b := n.op) (et_B (ev_ixV (ev_var rfl) ev_int .vt k4)) (fun o => (ev_catL (ev_ixV (ev_var rfl) ev_int .vt i2) (ev_ixV (ev_var rfl) ev_int .vt k2) (z _ _ fa.l fb.l)).to (by rw [if_pos o, nap])) (fun o => EvD.to (ev_ixV (ev_var rfl) ev_int .vt k2) (by rw [if_neg (by rw [o]; decide)]))) ?_
    refine g_ret hR ((ev_tup (ds := [.lst (m.at_.map atD ++ n.at_.map atD), .lst (nmD (if m.op then m.fi ++ n.fi else m.fi)), .lst (nmD (if n.op then m.la ++ n.la else n.la)), .lst (m.pr.map prD ++ n.pr.map prD ++ (crN m.la n.fi).map prD), .bl (m.op && n.op)]) (ea_cons (ev_catL (ev_ixV (ev_var rfl) ev_int .vt i0) (ev_ixV (ev_var rfl) ev_int .vt k0) ?h1) (ea_cons (ev_var rfl) (ea_cons (ev_var rfl) (ea_cons (ev_catL (ev_catL (ev_ixV (ev_var rfl) ev_int .vt i3) (ev_ixV (ev_var rfl) ev_int .vt k3) ?h2) (ev_callP (ea2 (ev_ixV (ev_var rfl) ev_int .vt i2) (ev_ixV (ev_var rfl) ev_int .vt k1)) ⟨_, _, rfl, _, _, rfl, rfl, ?h4, rfl, rfl⟩) ?h5) (ea1 (ev_andV (ev_ixV (ev_var rfl) ev_int .vt i4) (fun _ => (ev_ixV (ev_var rfl) ev_int .vt k4)))))))) (Nat.le_of_ble_eq_true rfl)).to ?h3) ⟨rfl, rfl⟩
    case h1 =>
      have h1 := fa.a
      have h2 := fb.a
      rw [List.length_map, List.length_map]
      omega
    case h2 =>
      rw [List.length_map, List.length_map]
      omega
    case h3 =>
      rw [← List.map_append, ← List.map_append, ← List.map_append]
      rfl
    case h4 =>
      omega
    case h5 =>
      rw [List.length_append, List.length_map, List.length_map, List.length_map]
      omega
end
/-- a machine -/
abbrev McD (K : PySem.W.Frag) (m : Mc) : D := .ins (He.ga K "Machine") [("atoms", .lst (m.at_.map atD)), ("firsts", .lst (nmD m.fi)), ("lasts", .lst (nmD m.la)), ("pairs", .dit (prsD m.pr)), ("is_optional", .bl m.op)]
def ct_Machine___init (K : PySem.W.Frag) : Ct := Ct6 fun s a b c e f ka out => ∃ p d1 d2 d3 d4 d5, s = .val (.adr p) ∧ a = .val d1 ∧ b = .val d2 ∧ c = .val d3 ∧ e = .val d4 ∧ f = .val d5 ∧ ka = [(p, .ins (He.ga K "Machine") [])] ∧
  out = Rt .non [(p, .ins (He.ga K "Machine") [("atoms", d1), ("firsts", d2), ("lasts", d3), ("pairs", d4), ("is_optional", d5)])]
section
variable {P : Program} {w : World} {K : PySem.W.Frag} {mg : Str → Option Value} {base : Heap}
theorem ok_Machine___init (T : Tx K mg) : Fn P w K mg base 4 (He.ma K (He.ga K "Machine") "__init__") ["self", "atoms", "firsts", "lasts", "pairs", "is_optional"] (ct_Machine___init K) := by
  obtain ⟨fd, F⟩ := T.d_Machine___init
  refine fn_ok F sc_Machine___init (fun _ _ _ _ _ _ us hl => match us, hl with | [_, _, _, _, _, _], _ => rfl) ct6_len (fun cdv A outer s H E hr => ⟨_, (pss_cons (ps_fld (pv 0) (pv 1) rfl)
      (pss_cons (ps_fld (pv 0) (pv 2) rfl)
      (pss_cons (ps_fld (pv 0) (pv 3) rfl)
      (pss_cons (ps_fld (pv 0) (pv 4) rfl)
      (pss_one (ps_fld (pv 0) (pv 5) rfl)))))), fun ws ka out B F0 Q hC hR hX => ?_⟩)
  obtain ⟨s1, a, b, c, e, f, rfl, p, d1, d2, d3, d4, d5, rfl, rfl, rfl, rfl, rfl, rfl, rfl, rfl⟩ := hC
  refine q_fld (j := 0) (a := p) (fs := []) (d := d1) (ev_var rfl) (ev_var rfl) rfl T.cl_Machine T.na_Machine_atoms (show 0 < 900 by decide) ?_
  refine q_fld (j := 0) (a := p) (fs := [("atoms", d1)]) (d := d2) (ev_var rfl) (ev_var rfl) rfl T.cl_Machine T.na_Machine_firsts (show 1 < 900 by decide) ?_
  refine q_fld (j := 0) (a := p) (fs := [("atoms", d1), ("firsts", d2)]) (d := d3) (ev_var rfl) (ev_var rfl) rfl T.cl_Machine T.na_Machine_lasts (show 2 < 900 by decide) ?_
  refine q_fld (j := 0) (a := p) (fs := [("atoms", d1), ("firsts", d2), ("lasts", d3)]) (d := d4) (ev_var rfl) (ev_var rfl) rfl T.cl_Machine T.na_Machine_pairs (show 3 < 900 by decide) ?_
  refine g_fld (j := 0) (a := p) (fs := [("atoms", d1), ("firsts", d2), ("lasts", d3), ("pairs", d4)]) (d := d5) (ev_var rfl) (ev_var rfl) rfl T.cl_Machine T.na_Machine_is_optional (show 4 < 900 by decide) ?_
  exact g_end hR ⟨rfl, rfl⟩
end
def ct_made_machine (K : PySem.W.Frag) : Ct := Ct1 fun a ka out => ∃ t : Tr, a = .val (t.d false) ∧ t.dep < 8 ∧ t.sm ∧ ka = [] ∧ out = Rt (McD K (mcT t 0)) []
section
variable {P : Program} {w : World} {K : PySem.W.Frag} {mg : Str → Option Value} {base : Heap}
theorem ok_made_machine (T : Tx K mg) (F_read_tree : Fn P w K mg base 22 (He.ga K "read_tree") ["tree", "start"] (ct_read_tree 8 K)) (F_Machine___init : Fn P w K mg base 4 (He.ma K (He.ga K "Machine") "__init__") ["self", "atoms", "firsts", "lasts", "pairs", "is_optional"] (ct_Machine___init K)) : Fn P w K mg base 24 (He.ga K "made_machine") ["tree"] (ct_made_machine K) := by
  obtain ⟨fd, F⟩ := T.d_made_machine
  refine fn_ok F sc_made_machine (fun _ _ _ _ _ _ us hl => match us, hl with | [_], _ => rfl) ct1_len (fun cdv A outer s H E hr => ⟨_, (pss_cons (ps_asg (pe_call (F_read_tree.up (by decide)).ok hr rfl T.g_read_tree.1 T.g_read_tree.2 (F_read_tree.up (by decide)).bn .nil (pass_own rfl rfl rfl rfl) (pa_cons (pv 0) (pa_cons pe_int pa_nil))) (pg_tup rfl (pgs_cons (pg_name (i := 1) sc_made_machine.nd rfl (by first | exact Or.inl rfl | exact Or.inr rfl)) (pgs_cons (pg_name (i := 2) sc_made_machine.nd rfl (by first | exact Or.inl rfl | exact Or.inr rfl)) (pgs_cons (pg_name (i := 3) sc_made_machine.nd rfl (by first | exact Or.inl rfl | exact Or.inr rfl)) (pgs_cons (pg_name (i := 4) sc_made_machine.nd rfl (by first | exact Or.inl rfl | exact Or.inr rfl)) (pgs_cons (pg_name (i := 5) sc_made_machine.nd rfl (by first | exact Or.inl rfl | exact Or.inr rfl)) pgs_nil)))))))
      (pss_one (ps_ret (pe_make T.mk_Machine (F_Machine___init.up (by decide)).ok hr rfl T.g_Machine.1 (F_Machine___init.up (by decide)).bn .nil (pass_own rfl rfl rfl rfl) (pa_cons (pv 1) (pa_cons (pv 2) (pa_cons (pv 3) (pa_cons (pe_keysT (v := .bl true) (r := .bool true) (hr).units0 rfl (pv 4) rfl (fun _ _ _ _ q => PyProof.Rows.Constant_bool q) rfl (by kernel_rfl) rfl rfl) (pa_cons (pv 5) pa_nil))))))))), fun ws ka out B F0 Q hC hR hX => ?_⟩)
  obtain ⟨a, rfl, t, rfl, hd, hs, rfl, rfl⟩ := hC
  have f := hs.fits 0
  refine q_asgT (w := .val (rdT (mcT t 0))) (ev_callP (ea2 (ev_var rfl) ev_int) ⟨_, _, rfl, t, 0, rfl, rfl, hd, hs, rfl, rfl⟩) (at_tup rfl (al_cons at_n (al_cons at_n (al_cons at_n (al_cons at_n (al_cons at_n al_nil)))))) ?_
  generalize mcT t 0 = m at *
  refine g_ret hR (evn_make (k1 := []) (k2 := []) (ea_cons (ev_var rfl) (ea_cons (ev_var rfl) (ea_cons (ev_var rfl) (ea_cons (evn_keysT (ps := m.pr) T.np_0 (ev_var rfl) (by have := f.p; omega)).dit (ea1 (ev_var rfl)))))) (fun a => ⟨_, ⟨_, _, _, _, _, _, rfl, a, _, _, _, _, _, rfl, rfl, rfl, rfl, rfl, rfl, rfl, rfl⟩, fun _ _ z => z⟩)).ins ⟨rfl, rfl⟩
end
/-- a pattern -/
abbrev PaD (K : PySem.W.Frag) (d : D) : D := .ins (He.ga K "Pattern") [("tree", d)]
def ct_Pattern___init (K : PySem.W.Frag) : Ct := Ct2 fun s a ka out => ∃ p d, s = .val (.adr p) ∧ a = .val d ∧ ka = [(p, .ins (He.ga K "Pattern") [])] ∧ out = Rt .non [(p, .ins (He.ga K "Pattern") [("tree", d)])]
/-- Pattern(tree) -/
theorem ev_pat {K : PySem.W.Frag} {ro : Ro} {ka : Cells} {te : TE} {d : D} {E : XK} (h : EvD K te ro ka (.val d) []) : EvD K (tMake (He.ga K "Pattern") (spC K (ct_Pattern___init K)) [] E (tCons te tNil)) ro ka (.val (PaD K d)) [] :=
  (evn_make (ea1 h) fun a => ⟨_, ⟨_, _, rfl, a, d, rfl, rfl, rfl, rfl⟩, fun _ _ z => z⟩).ins
section
variable {P : Program} {w : World} {K : PySem.W.Frag} {mg : Str → Option Value} {base : Heap}
theorem ok_Pattern___init (T : Tx K mg) : Fn P w K mg base 4 (He.ma K (He.ga K "Pattern") "__init__") ["self", "tree"] (ct_Pattern___init K) := by
  obtain ⟨fd, F⟩ := T.d_Pattern___init
  refine fn_ok F sc_Pattern___init (fun _ _ _ _ _ _ us hl => match us, hl with | [_, _], _ => rfl) ct2_len (fun cdv A outer s H E hr => ⟨_, (pss_one (ps_fld (pv 0) (pv 1) rfl)), fun ws ka out B F0 Q hC hR hX => ?_⟩)
  obtain ⟨s1, a, rfl, p, d, rfl, rfl, rfl, rfl⟩ := hC
  exact g_fld (j := 0) (a := p) (fs := []) (d := d) (ev_var rfl) (ev_var rfl) rfl T.cl_Pattern T.na_Pattern_tree (show 0 < 900 by decide) (g_end hR ⟨rfl, rfl⟩)
end
def ct_word_pattern (K : PySem.W.Frag) : Ct := Ct1 fun a ka out => ∃ (tt : Bool) (x : Str) (xs : List Str), Lk [] a tt (stD (x :: xs)) false ∧ xs.length ≤ 1000 ∧ ka = [] ∧ out = Rt (PaD K ((wdT x xs).d false)) []
section
variable {P : Program} {w : World} {K : PySem.W.Frag} {mg : Str → Option Value} {base : Heap}
theorem ok_word_pattern (T : Tx K mg) (F_Pattern___init : Fn P w K mg base 4 (He.ma K (He.ga K "Pattern") "__init__") ["self", "tree"] (ct_Pattern___init K)) : Fn P w K mg base 6 (He.ga K "word_pattern") ["names"] (ct_word_pattern K) := by
  obtain ⟨fd, F⟩ := T.d_word_pattern
  refine fn_ok F sc_word_pattern (fun _ _ _ _ _ _ us hl => match us, hl with | [_], _ => rfl) ct1_len (fun cdv A outer s H E hr => ⟨_, (pss_cons (ps_set (i := 1) sc_word_pattern.nd rfl (by first | exact Or.inl rfl | exact Or.inr rfl) (pe_tup (pa_cons pe_str (pa_cons (pe_tup (pa_cons (pe_ix ix_seq (pv 0) pe_int fun _ _ => rfl) pa_nil)) pa_nil))))
      (pss_cons (ps_for (passes_of rfl) rfl (pi_seq (pe_slice sl_U (pv 0) (po_some pe_int) po_none)) (pg_name (i := 2) sc_word_pattern.nd rfl (by first | exact Or.inl rfl | exact Or.inr rfl)) (pss_one (ps_set (i := 1) sc_word_pattern.nd rfl (by first | exact Or.inl rfl | exact Or.inr rfl) (pe_tup (pa_cons pe_str (pa_cons (pv 1) (pa_cons (pe_tup (pa_cons pe_str (pa_cons (pe_tup (pa_cons (pv 2) pa_nil)) pa_nil))) pa_nil)))))))
      (pss_one (ps_ret (pe_make T.mk_Pattern (F_Pattern___init.up (by decide)).ok hr rfl T.g_Pattern.1 (F_Pattern___init.up (by decide)).bn .nil (pass_own rfl rfl rfl rfl) (pa_cons (pv 1) pa_nil)))))), fun ws ka out B F0 Q hC hR hX => ?_⟩)
  obtain ⟨a, rfl, tt, x, xs, l, hl, rfl, rfl⟩ := hC
  have cut : cutD (stD (x :: xs)) (some 1) none = stD xs := by
    rw [cut_from (by decide) (by rw [stD_len, List.length_cons]; omega)]
    rfl
  cases l with
  | ce j h => simp at h
  | vt =>
    refine q_asg (ev_tup (ds := [.str "any", .tup [.str x]]) (ea2 ev_str (ev_tup (ds := [.str x]) (ea1 (ev_ixV (ev_var rfl) ev_int .vt at0)) (Nat.le_of_ble_eq_true rfl))) (Nat.le_of_ble_eq_true rfl)) ?_
    refine q_forn (C := fun _ => True) (EvI.ws (ws' := xs.map fun s : Str => W.val (.str s)) (ei_seq (ds := stD xs) ((ev_slT (ev_var rfl) (eo_some ev_int) eo_none).to (by rw [cut])) .vt) (by unfold stD; rw [List.map_map]; rfl)) (fun i ro ka => ∃ v, ro = [some (.val (.tup (stD (x :: xs)))), some (.val ((wdT x (xs.take i)).d false)), v] ∧ ka = []) ⟨none, rfl, rfl⟩ (fun _ _ _ _ => trivial) (fun i w ro2 ka2 ta' hw ⟨v, e1, e2⟩ => ?_) (fun ro2 ka2 ta' ⟨v, e1, e2⟩ _ => ?_)
    · subst e1 e2
      rw [List.getElem?_map] at hw
      obtain ⟨y, hy, rfl⟩ := Option.map_eq_some_iff.mp hw
      refine g_asg (w := .val ((Tr.join (wdT x (xs.take i)) (.at true [y])).d false)) (ev_tup (ds := [.str "join", (wdT x (xs.take i)).d false, .tup [.str "any", .tup [.str y]]]) (ea3 ev_str (ev_var rfl) (ev_tup (ds := [.str "any", .tup [.str y]]) (ea2 ev_str (ev_tup (ds := [.str y]) (ea1 (ev_var rfl)) (Nat.le_of_ble_eq_true rfl))) (Nat.le_of_ble_eq_true rfl))) (Nat.le_of_ble_eq_true rfl)) (g_jp ⟨some (.val (.str y)), ?_, rfl⟩)
      rw [take_succ_some hy, wdT_snoc]
      rfl
    · subst e1 e2
      rw [List.length_map, List.take_length]
      exact g_ret hR (ev_pat (ev_var rfl)) ⟨rfl, rfl⟩
  | vl =>
    refine q_asg (ev_tup (ds := [.str "any", .tup [.str x]]) (ea2 ev_str (ev_tup (ds := [.str x]) (ea1 (ev_ixV (ev_var rfl) ev_int .vl at0)) (Nat.le_of_ble_eq_true rfl))) (Nat.le_of_ble_eq_true rfl)) ?_
    refine q_forn (C := fun _ => True) (EvI.ws (ws' := xs.map fun s : Str => W.val (.str s)) (ei_seq (ds := stD xs) ((evn_sl (ev_var rfl) (eo_some ev_int) eo_none .vl).lst.to (w' := .val (.lst (stD xs))) (congrArg (fun z => W.val (.lst z)) cut)) .vl) (by unfold stD; rw [List.map_map]; rfl)) (fun i ro ka => ∃ v, ro = [some (.val (.lst (stD (x :: xs)))), some (.val ((wdT x (xs.take i)).d false)), v] ∧ ka = []) ⟨none, rfl, rfl⟩ (fun _ _ _ _ => trivial) (fun i w ro2 ka2 ta' hw ⟨v, e1, e2⟩ => ?_) (fun ro2 ka2 ta' ⟨v, e1, e2⟩ _ => ?_)
    · subst e1 e2
      rw [List.getElem?_map] at hw
      obtain ⟨y, hy, rfl⟩ := Option.map_eq_some_iff.mp hw
      refine g_asg (w := .val ((Tr.join (wdT x (xs.take i)) (.at true [y])).d false)) (ev_tup (ds := [.str "join", (wdT x (xs.take i)).d false, .tup [.str "any", .tup [.str y]]]) (ea3 ev_str (ev_var rfl) (ev_tup (ds := [.str "any", .tup [.str y]]) (ea2 ev_str (ev_tup (ds := [.str y]) (ea1 (ev_var rfl)) (Nat.le_of_ble_eq_true rfl))) (Nat.le_of_ble_eq_true rfl))) (Nat.le_of_ble_eq_true rfl)) (g_jp ⟨some (.val (.str y)), ?_, rfl⟩)
      rw [take_succ_some hy, wdT_snoc]
      rfl
    · subst e1 e2
      rw [List.length_map, List.take_length]
      exact g_ret hR (ev_pat (ev_var rfl)) ⟨rfl, rfl⟩
end
def strN : D → Str
  | .str s => s
  | _ => ""
theorem all_str : ∀ {ds : List D}, (∀ d ∈ ds, isNmD d = true) → ds = stD (ds.map strN)
  | [], _ => rfl
  | d :: ds, h => by
    have ih := all_str fun e he => h e (List.mem_cons_of_mem _ he)
    have h0 := h d List.mem_cons_self
    cases d with
    | str s => exact congrArg (D.str s :: ·) ih
    | _ => cases h0
/-- what a row of things stands for: the walk of these names, or what is refused -/
def apOut (K : PySem.W.Frag) (P : Tr → Oc) (ds : List D) : Oc := match ds, ds.find? (fun d => !isNmD d) with
  | [], _ => X0 (He.ga K "EmptyWalk") []
  | d :: r, none => P (wdT (strN d) (r.map strN))
  | _ :: _, some d => Xt (He.ga K "BadName") [("name", d)] []
/-- what stands for a pattern: a row of names of up to eight things, a pattern of up to ten atoms; how it is met -/
def MoR (K : PySem.W.Frag) (a : W) (P : Tr → Oc) (out : Oc) : Prop :=
  (∃ t ds, Lk [] a t ds false ∧ ds.length ≤ 8 ∧ (∀ d ∈ ds, nmOk d) ∧ out = apOut K P ds) ∨ (∃ u : Tr, a = .val (PaD K (u.d false)) ∧ u.dep < 8 ∧ u.sm ∧ u.ats ≤ 10 ∧ out = P u)
def ct_as_pattern (K : PySem.W.Frag) : Ct := Ct1 fun a ka out => MoR K a (fun u => Rt (PaD K (u.d false)) []) out ∧ ka = []
section
variable {P : Program} {w : World} {K : PySem.W.Frag} {mg : Str → Option Value} {base : Heap}
theorem ok_as_pattern (T : Tx K mg) (F_check_lanes : Fn P w K mg base 6 (He.ga K "check_lanes") ["lanes"] (ct_check_lanes K)) (F_word_pattern : Fn P w K mg base 6 (He.ga K "word_pattern") ["names"] (ct_word_pattern K)) : Fn P w K mg base 8 (He.ga K "as_pattern") ["thing"] (ct_as_pattern K) := by
  obtain ⟨fd, F⟩ := T.d_as_pattern
  refine fn_ok F sc_as_pattern (fun _ _ _ _ _ _ us hl => match us, hl with | [_], _ => rfl) ct1_len (fun cdv A outer s H E hr => ⟨_, (pss_cons (ps_if (pt_val (pe_callB call_isi rfl T.n_isinstance (by decide +kernel) (pa_cons (pv 0) (pa_cons (pe_glob (v := .ref (He.ga K "Pattern")) rfl T.g_Pattern.1 rfl) pa_nil))))
      (pss_one (ps_ret (pv 0)))
      pss_nil)
      (pss_cons (ps_expr (pe_call (F_check_lanes.up (by decide)).ok hr rfl T.g_check_lanes.1 T.g_check_lanes.2 (F_check_lanes.up (by decide)).bn .nil (pass_own rfl rfl rfl rfl) (pa_cons (pv 0) pa_nil)))
      (pss_one (ps_ret (pe_call (F_word_pattern.up (by decide)).ok hr rfl T.g_word_pattern.1 T.g_word_pattern.2 (F_word_pattern.up (by decide)).bn .nil (pass_own rfl rfl rfl rfl) (pa_cons (pv 0) pa_nil)))))), fun ws ka out B F0 Q hC hR hX => ?_⟩)
  obtain ⟨a, rfl, ⟨t, ds, l, hz, hd, rfl⟩ | ⟨u, rfl, _, _, _, rfl⟩, rfl⟩ := hC
  rotate_left
  · exact q_when ((et_test (ev_isiC (ev_var rfl) (.io .v T.ci_Pattern) T.ko_Pattern_Pattern)).to (b := true) rfl) (fun _ => g_ret hR (ev_var rfl) ⟨rfl, rfl⟩) (fun z => by cases z)
  have isi : EvT K (tTest (tCB (rIsi K) (tCons (tVar 0) (tCons (tC (.ref (He.ga K "Pattern"))) tNil)))) [some a] [] false [] := by
    cases l with
    | ce j h => simp at h
    | vl => exact et_test (ev_isiC (ev_var rfl) (tw_of (T := "list") rfl) T.kc_list_Pattern)
    | vt => exact et_test (ev_isiC (ev_var rfl) (tw_of (T := "tuple") rfl) T.kc_tuple_Pattern)
  refine q_when isi (fun z => by cases z) (fun _ => ?_)
  match ds, l, hz, hd, hX, hR with
  | [], l, _, hd, hX, _ => exact q_dropP0 hX (evx0_call (k2 := []) (kr := []) (k3 := []) (ea1 (ev_var rfl)) ⟨_, rfl, t, [], false, l, .inl rfl, hd, rfl⟩ rfl) ⟨rfl, rfl⟩
  | d :: r, l, hz, hd, hX, hR =>
    cases h : (d :: r).find? (fun d => !isNmD d) with
    | some e =>
      have ex : apOut K (fun u => Rt (PaD K (u.d false)) []) (d :: r) = Xt (He.ga K "BadName") [("name", e)] [] := by unfold apOut; rw [h]
      rw [ex] at hX
      exact q_dropP hX (evx_call (k2 := []) (kr := []) (k3 := []) (ea1 (ev_var rfl)) ⟨_, rfl, t, _, false, l, .inl rfl, hd, (ck_bad h).symm⟩ rfl) ⟨rfl, rfl⟩
    | none =>
      have all : ∀ e ∈ d :: r, isNmD e = true := fun e he => by
        have := List.find?_eq_none.mp h e he
        simpa using this
      have ex : apOut K (fun u => Rt (PaD K (u.d false)) []) (d :: r) = Rt (PaD K ((wdT (strN d) (r.map strN)).d false)) [] := by unfold apOut; rw [h]
      rw [ex] at hR
      refine q_drop (ev_callA (k2 := []) (d := .non) (ea1 (ev_var rfl)) ⟨_, rfl, t, _, false, l, .inl rfl, hd, (ck_ok (List.cons_ne_nil _ _) all).symm⟩) ?_
      have row : d :: r = stD (strN d :: r.map strN) := all_str all
      exact g_ret hR (ev_callP (ea1 (ev_var rfl)) ⟨_, rfl, t, strN d, r.map strN, row ▸ l, by rw [List.length_map]; rw [List.length_cons] at hz; omega, rfl, rfl⟩) ⟨rfl, rfl⟩
end
theorem wd_ats (x : Str) (xs : List Str) : (wdT x xs).ats = xs.length + 1 ∧ (wdT x xs).ops = xs.length ∧ (wdT x xs).dep ≤ xs.length ∧ (wdT x xs).few := by
  have key : ∀ n (xs : List Str), xs.length = n → (wdT x xs).ats = xs.length + 1 ∧ (wdT x xs).ops = xs.length ∧ (wdT x xs).dep ≤ xs.length ∧ (wdT x xs).few := by
    intro n
    induction n with
    | zero =>
      intro xs h
      obtain rfl := List.eq_nil_of_length_eq_zero h
      exact ⟨rfl, rfl, Nat.le_refl _, Nat.le_of_ble_eq_true rfl⟩
    | succ n ih =>
      intro xs h
      have hne : xs ≠ [] := fun z => by rw [z] at h; cases h
      obtain ⟨ys, y, rfl⟩ : ∃ ys y, xs = ys ++ [y] := ⟨xs.dropLast, xs.getLast hne, (List.dropLast_concat_getLast hne).symm⟩
      rw [List.length_append] at h ⊢
      obtain ⟨h1, h2, h3, h4⟩ := ih ys (by simpa using h)
      rw [wdT_snoc]
      refine ⟨?_, ?_, ?_, h4, Nat.le_of_ble_eq_true rfl⟩
      · show (wdT x ys).ats + 1 = _
        rw [h1]; rfl
      · show (wdT x ys).ops + 0 + 1 = _
        rw [h2]; rfl
      · show max (wdT x ys).dep 0 + 1 ≤ ys.length + 1
        omega
  exact key _ xs rfl
def ct_machine_of (K : PySem.W.Frag) : Ct := Ct1 fun a ka out => MoR K a (fun u => Rt (McD K (mcT u 0)) []) out ∧ ka = []
section
variable {P : Program} {w : World} {K : PySem.W.Frag} {mg : Str → Option Value} {base : Heap}
theorem ok_machine_of (T : Tx K mg) (F_made_machine : Fn P w K mg base 24 (He.ga K "made_machine") ["tree"] (ct_made_machine K)) (F_as_pattern : Fn P w K mg base 8 (He.ga K "as_pattern") ["thing"] (ct_as_pattern K)) : Fn P w K mg base 26 (He.ga K "machine_of") ["thing"] (ct_machine_of K) := by
  obtain ⟨fd, F⟩ := T.d_machine_of
  refine fn_ok F sc_machine_of (fun _ _ _ _ _ _ us hl => match us, hl with | [_], _ => rfl) ct1_len (fun cdv A outer s H E hr => ⟨_, (pss_one (ps_ret (pe_call (F_made_machine.up (by decide)).ok hr rfl T.g_made_machine.1 T.g_made_machine.2 (F_made_machine.up (by decide)).bn .nil (pass_own rfl rfl rfl rfl) (pa_cons (pe_fld (pe_call (F_as_pattern.up (by decide)).ok hr rfl T.g_as_pattern.1 T.g_as_pattern.2 (F_as_pattern.up (by decide)).bn .nil (pass_own rfl rfl rfl rfl) (pa_cons (pv 0) pa_nil)) rfl) pa_nil)))), fun ws ka out B F0 Q hC hR hX => ?_⟩)
  obtain ⟨a, rfl, ⟨t, ds, l, hz, hd, rfl⟩ | ⟨u, rfl, hd, sm, ha, rfl⟩, rfl⟩ := hC
  rotate_left
  · exact g_ret hR (ev_callP (ea1 (ev_fld (ev_callP (d := PaD K (u.d false)) (ea1 (ev_var rfl)) ⟨_, rfl, .inr ⟨u, rfl, hd, sm, ha, rfl⟩, rfl⟩) .v T.cl_Pattern T.na_Pattern_tree rfl)) ⟨_, rfl, _, rfl, hd, sm, rfl, rfl⟩) ⟨rfl, rfl⟩
  match ds, l, hz, hd, hX, hR with
  | [], l, _, hd, hX, _ => exact g_retP0 hX (evx0_arg (evx0_fld (evx0_call (k2 := []) (kr := []) (k3 := []) (ea1 (ev_var rfl)) ⟨_, rfl, .inl ⟨t, [], l, Nat.zero_le _, hd, rfl⟩, rfl⟩ rfl))) ⟨rfl, rfl⟩
  | d :: r, l, hz, hd, hX, hR =>
    cases h : (d :: r).find? (fun d => !isNmD d) with
    | some e =>
      have ex : ∀ P, apOut K P (d :: r) = Xt (He.ga K "BadName") [("name", e)] [] := fun P => by unfold apOut; rw [h]
      rw [ex] at hX
      exact g_retPX hX (evx_arg (evx_fld (evx_call (k2 := []) (kr := []) (k3 := []) (ea1 (ev_var rfl)) ⟨_, rfl, .inl ⟨t, _, l, by omega, hd, (ex _).symm⟩, rfl⟩ rfl))) ⟨rfl, rfl⟩
    | none =>
      have ex : ∀ P, apOut K P (d :: r) = P (wdT (strN d) (r.map strN)) := fun P => by unfold apOut; rw [h]
      rw [ex] at hR
      rw [List.length_cons] at hz
      obtain ⟨h1, h2, h3, h4⟩ := wd_ats (strN d) (r.map strN)
      rw [List.length_map] at h1 h2 h3
      have sm : (wdT (strN d) (r.map strN)).sm := by
        refine sm_of (n := 8) h4 (by omega) (by decide) ?_
        calc (wdT (strN d) (r.map strN)).ops * (8 * 8) ≤ 7 * (8 * 8) := Nat.mul_le_mul_right _ (by omega)
          _ ≤ 90000 := by decide
      exact g_ret hR (ev_callP (ea1 (ev_fld (ev_callP (d := PaD K ((wdT (strN d) (r.map strN)).d false)) (ea1 (ev_var rfl)) ⟨_, rfl, .inl ⟨t, _, l, by rw [List.length_cons]; omega, hd, (ex (fun u => Rt (PaD K (u.d false)) [])).symm⟩, rfl⟩) .v T.cl_Pattern T.na_Pattern_tree rfl)) ⟨_, rfl, _, rfl, by omega, sm, rfl, rfl⟩) ⟨rfl, rfl⟩
end
def ct_Machine_takes (K : PySem.W.Frag) : Ct := Ct3 fun s a l ka out => ∃ (m : Mc) (i : Nat) (p : Bool × List Str) (x : Str), s = .val (McD K m) ∧ a = .val (.int (i : Int)) ∧ l = .val (.str x) ∧ m.at_[i]? = some p ∧ ka = [] ∧ out = Rt (.bl (atB p x)) []
section
variable {P : Program} {w : World} {K : PySem.W.Frag} {mg : Str → Option Value} {base : Heap}
theorem ok_Machine_takes (T : Tx K mg) : Fn P w K mg base 4 (He.ma K (He.ga K "Machine") "takes") ["self", "atom", "lane"] (ct_Machine_takes K) := by
  obtain ⟨fd, F⟩ := T.d_Machine_takes
  refine fn_ok F sc_Machine_takes (fun _ _ _ _ _ _ us hl => match us, hl with | [_, _, _], _ => rfl) ct3_len (fun cdv A outer s H E hr => ⟨_, (pss_cons (ps_asg (pe_ix ix_seq (pe_fld (pv 0) rfl) (pv 1) fun _ _ => rfl) (pg_tup rfl (pgs_cons (pg_name (i := 3) sc_Machine_takes.nd rfl (by first | exact Or.inl rfl | exact Or.inr rfl)) (pgs_cons (pg_name (i := 4) sc_Machine_takes.nd rfl (by first | exact Or.inl rfl | exact Or.inr rfl)) pgs_nil))))
      (pss_one (ps_ret (pe_cmpR (op_eqP (by have := (hr).units; exact this)) (pe_cmpR op_inU (pv 2) (pv 4) (by with_unfolding_all rfl)) (pv 3) (nomark _))))), fun ws ka out B F0 Q hC hR hX => ?_⟩)
  obtain ⟨s1, a, l, rfl, m, i, p, x, rfl, rfl, rfl, hi, rfl, rfl⟩ := hC
  refine q_asgT (w := .val (atD p)) (ev_ixV (ev_fld (ev_var rfl) .v T.cl_Machine T.na_Machine_atoms rfl) (ev_var rfl) .vl (atI_nat (by rw [List.getElem?_map, hi]; rfl))) at_t2 ?_
  exact g_ret hR (ev_eqB (ev_inL (ss := p.2) (ev_var rfl) (ev_var rfl) .vt) (ev_var rfl)) ⟨rfl, rfl⟩
end
def ct_Machine_is_behind (K : PySem.W.Frag) : Ct := Ct3 fun s a b ka out => ∃ (m : Mc) (ps : List Nat) (i : Nat), s = .val (McD K m) ∧ a = .val (.tup (nmD ps)) ∧ b = .val (.int (i : Int)) ∧ ps.length ≤ 1000 ∧ ka = [] ∧ out = Rt (.bl (behM m ps i)) []
section
variable {P : Program} {w : World} {K : PySem.W.Frag} {mg : Str → Option Value} {base : Heap}
theorem ok_Machine_is_behind (T : Tx K mg) : Fn P w K mg base 4 (He.ma K (He.ga K "Machine") "is_behind") ["self", "places", "atom"] (ct_Machine_is_behind K) := by
  obtain ⟨fd, F⟩ := T.d_Machine_is_behind
  refine fn_ok F sc_Machine_is_behind (fun _ _ _ _ _ _ us hl => match us, hl with | [_, _, _], _ => rfl) ct3_len (fun cdv A outer s H E hr => ⟨_, (pss_one (ps_ret (pe_callB (cr_any rfl) rfl T.n_any (by decide +kernel) (pa_cons (pe_lc (te := (tDIn (tTup (tCons (tVar 3) (tCons (tVar 2) tNil))) (tFld K (tVar 0) "pairs"))) (tt := tYes) (own := [("place", 3)]) rfl sc_Machine_is_behind.nd (pi_seq (pv 1)) (blk_ok ["self", "places", "atom", "place"] (defScope s_Machine_is_behind) rfl rfl (by decide +kernel)) (fun _ _ _ _ _ => (pg_name (i := 3) sc_Machine_is_behind.nd rfl (by first | exact Or.inl rfl | exact Or.inr rfl))) (fun _ _ _ _ _ => pts_nil) (fun _ _ _ _ _ => (pe_cmp (pc_din (hu1 hr) (pe_tup (pa_cons (pv 3) (pa_cons (pv 2) pa_nil))) (pe_fld (pv 0) rfl)) (by with_unfolding_all rfl)))) pa_nil)))), fun ws ka out B F0 Q hC hR hX => ?_⟩)
  obtain ⟨s1, a, b, rfl, m, ps, i, rfl, rfl, rfl, hl, rfl, rfl⟩ := hC
  refine g_ret hR ((ev_cb (ea1 (evn_filt_to (ds := ps.map fun p => D.bl (decide ((p, i) ∈ m.pr))) (es := (ps.map fun p => decide ((p, i) ∈ m.pr)).map D.bl) (evn_map (xs := ps) (g := fun n : Nat => W.val (.int (n : Int))) (f := fun p => D.bl (decide ((p, i) ∈ m.pr))) (C := Stay (.val (.tup (nmD ps))) (nmD ps)) (EvI.ws (ei_seq (ds := nmD ps) (ev_var rfl) .vt) (by unfold nmD; rw [List.map_map]; rfl)) (by decide) (by omega) ⟨trivial, fun _ => trivial⟩ (fun p hp => (ev_dinP (p := (p, i)) T.np_0 (ev_tup (ds := [.int (p : Int), .int (i : Int)]) (ea2 (ev_var rfl) (ev_var rfl)) (Nat.le_of_ble_eq_true rfl)) (ev_fld (ev_var rfl) .v T.cl_Machine T.na_Machine_pairs rfl)).to (by rw [prs_in]))) (List.map_map.symm)).lst) (rc_any .vl)).to ?_) ⟨rfl, rfl⟩
  unfold behM
  rw [List.any_map]
  rfl
end
theorem tk_at {m : Mc} {i : Nat} {x : Str} {p : Bool × List Str} (h : m.at_[i]? = some p) : tkM m i x = atB p x := by
  unfold tkM
  rw [h]
theorem at_lt {m : Mc} {i : Nat} (h : i < m.at_.length) : ∃ p, m.at_[i]? = some p := ⟨_, List.getElem?_eq_getElem h⟩
def ct_Machine_after (K : PySem.W.Frag) : Ct := Ct3 fun s a l ka out => ∃ (m : Mc) (ps : List Nat) (x : Str), s = .val (McD K m) ∧ a = .val (.tup (nmD ps)) ∧ l = .val (.str x) ∧ Fits m ∧ ps.length ≤ 1000 ∧ ka = [] ∧ out = Rt (.tup (nmD (afterM m ps x))) []
section
variable {P : Program} {w : World} {K : PySem.W.Frag} {mg : Str → Option Value} {base : Heap}
theorem ok_Machine_after (T : Tx K mg) (F_Machine_takes : Fn P w K mg base 4 (He.ma K (He.ga K "Machine") "takes") ["self", "atom", "lane"] (ct_Machine_takes K)) (F_Machine_is_behind : Fn P w K mg base 4 (He.ma K (He.ga K "Machine") "is_behind") ["self", "places", "atom"] (ct_Machine_is_behind K)) : Fn P w K mg base 6 (He.ma K (He.ga K "Machine") "after") ["self", "places", "lane"] (ct_Machine_after K) := by
  obtain ⟨fd, F⟩ := T.d_Machine_after
  refine fn_ok F sc_Machine_after (fun _ _ _ _ _ _ us hl => match us, hl with | [_, _, _], _ => rfl) ct3_len (fun cdv A outer s H E hr => ⟨_, (pss_cons (ps_set (i := 3) sc_Machine_after.nd rfl (by first | exact Or.inl rfl | exact Or.inr rfl) (pe_callB call_lenU rfl T.n_len (by decide +kernel) (pa_cons (pe_fld (pv 0) rfl) pa_nil)))
      (pss_one (ps_ret (pe_callTy call_tupU rfl T.n_tuple (by decide +kernel) (pa_cons (pe_lc (te := (tVar 4)) (tt := (tAnd (tB (tMeth (He.ga K "Machine") "takes" (spC K (ct_Machine_takes K)) [] (fun _ _ _ => False) (tVar 0) (tCons (tVar 4) (tCons (tVar 2) tNil)))) (tB (tMeth (He.ga K "Machine") "is_behind" (spC K (ct_Machine_is_behind K)) [] (fun _ _ _ => False) (tVar 0) (tCons (tVar 1) (tCons (tVar 4) tNil)))))) (own := [("atom", 4)]) rfl sc_Machine_after.nd (pi_range1 rfl T.n_range (pa_cons (pv 3) pa_nil)) (blk_ok ["self", "places", "lane", "size", "atom"] (defScope s_Machine_after) rfl rfl (by decide +kernel)) (fun _ _ _ _ _ => (pg_name (i := 4) sc_Machine_after.nd rfl (by first | exact Or.inl rfl | exact Or.inr rfl))) (fun _ _ _ _ _ => (pts_one (PW.pt (pw_and (pt_val (pe_meth (pv 0) T.cl_Machine T.me_Machine_takes (F_Machine_takes.up (by decide)).ok hr (F_Machine_takes.up (by decide)).bn .nil passes_no (pa_cons (pv 4) (pa_cons (pv 2) pa_nil)))) (pw_and1 (pt_val (pe_meth (pv 0) T.cl_Machine T.me_Machine_is_behind (F_Machine_is_behind.up (by decide)).ok hr (F_Machine_is_behind.up (by decide)).bn .nil passes_no (pa_cons (pv 1) (pa_cons (pv 4) pa_nil))))))))) (fun _ _ _ _ _ => (pv 4))) pa_nil))))), fun ws ka out B F0 Q hC hR hX => ?_⟩)
  obtain ⟨s1, a, l, rfl, m, ps, x, rfl, rfl, rfl, f, hl, rfl, rfl⟩ := hC
  have fa := f.a
  refine q_asg (w := .val (.int ((m.at_.length : Nat) : Int))) ((ev_len (ev_fld (ev_var rfl) .v T.cl_Machine T.na_Machine_atoms rfl) .vl).to (by rw [List.length_map])) ?_
  exact g_ret hR (ev_cb (ea1 (evn_filt (xs := List.range m.at_.length) (g := fun i : Nat => W.val (.int (i : Int))) (f := fun i : Nat => D.int (i : Int)) (p := fun a => tkM m a x && behM m ps a) (C := fun _ => True) (ei_range1 (m := ((m.at_.length : Nat) : Int)) (ea1 (ev_var rfl)) (by omega) (by omega)) (by decide) (by rw [List.length_range]; omega) ⟨trivial, fun _ => trivial⟩ (fun i hi => by
    obtain ⟨p, hp⟩ := at_lt (m := m) (List.mem_range.mp hi)
    refine et_and ((et_B (ev_methP (ev_var rfl) .v rfl (ea2 (ev_var rfl) (ev_var rfl)) ⟨_, _, _, rfl, m, i, p, x, rfl, rfl, rfl, hp, rfl, rfl⟩)).to (by rw [tk_at hp])) (fun _ => et_B (ev_methP (ev_var rfl) .v rfl (ea2 (ev_var rfl) (ev_var rfl)) ⟨_, _, _, rfl, m, ps, i, rfl, rfl, rfl, hl, rfl, rfl⟩))) (fun i hi _ => ev_var rfl)).lst) (rc_tupL .vl (.inl rfl))) ⟨rfl, rfl⟩
end
def ct_Machine_begun (K : PySem.W.Frag) : Ct := Ct3 fun s a l ka out => ∃ (m : Mc) (ps : List Nat) (x : Str), s = .val (McD K m) ∧ a = .val (.tup (nmD ps)) ∧ l = .val (.str x) ∧ Fits m ∧ ps.length ≤ 1000 ∧ ka = [] ∧ out = Rt (.tup (nmD (begM m ps x))) []
section
variable {P : Program} {w : World} {K : PySem.W.Frag} {mg : Str → Option Value} {base : Heap}
theorem ok_Machine_begun (T : Tx K mg) (F_Machine_takes : Fn P w K mg base 4 (He.ma K (He.ga K "Machine") "takes") ["self", "atom", "lane"] (ct_Machine_takes K)) (F_Machine_is_behind : Fn P w K mg base 4 (He.ma K (He.ga K "Machine") "is_behind") ["self", "places", "atom"] (ct_Machine_is_behind K)) : Fn P w K mg base 6 (He.ma K (He.ga K "Machine") "begun") ["self", "places", "lane"] (ct_Machine_begun K) := by
  obtain ⟨fd, F⟩ := T.d_Machine_begun
  refine fn_ok F sc_Machine_begun (fun _ _ _ _ _ _ us hl => match us, hl with | [_, _, _], _ => rfl) ct3_len (fun cdv A outer s H E hr => ⟨_, (pss_cons (ps_set (i := 3) sc_Machine_begun.nd rfl (by first | exact Or.inl rfl | exact Or.inr rfl) (pe_callB call_lenU rfl T.n_len (by decide +kernel) (pa_cons (pe_fld (pv 0) rfl) pa_nil)))
      (pss_cons (ps_setLc (i := 5) (te := (tVar 4)) (tt := (tOr (tTest (tOp (rInU K) (tVar 4) (tFld K (tVar 0) "firsts"))) (tB (tMeth (He.ga K "Machine") "is_behind" (spC K (ct_Machine_is_behind K)) [] (fun _ _ _ => False) (tVar 0) (tCons (tVar 1) (tCons (tVar 4) tNil)))))) (own := [("atom", 4)]) rfl sc_Machine_begun.nd rfl rfl rfl (pi_range1 rfl T.n_range (pa_cons (pv 3) pa_nil)) (blk_ok ["self", "places", "lane", "size", "atom", "open_atoms"] (defScope s_Machine_begun) rfl rfl (by decide +kernel)) (fun _ _ _ _ _ => (pg_name (i := 4) sc_Machine_begun.nd rfl (by first | exact Or.inl rfl | exact Or.inr rfl))) (fun _ _ _ _ _ => (pts_one (PW.pt (pw_or (pt_cmpR op_inU (pv 4) (pe_fld (pv 0) rfl) (by with_unfolding_all rfl)) (pw_or1 (pt_val (pe_meth (pv 0) T.cl_Machine T.me_Machine_is_behind (F_Machine_is_behind.up (by decide)).ok hr (F_Machine_is_behind.up (by decide)).bn .nil passes_no (pa_cons (pv 1) (pa_cons (pv 4) pa_nil))))))))) (fun _ _ _ _ _ => (pv 4)))
      (pss_one (ps_ret (pe_callTy call_tupU rfl T.n_tuple (by decide +kernel) (pa_cons (pe_lc (te := (tVar 4)) (tt := (tB (tMeth (He.ga K "Machine") "takes" (spC K (ct_Machine_takes K)) [] (fun _ _ _ => False) (tVar 0) (tCons (tVar 4) (tCons (tVar 2) tNil))))) (own := [("atom", 4)]) rfl sc_Machine_begun.nd (pi_seq (pv 5)) (blk_ok ["self", "places", "lane", "size", "atom", "open_atoms"] (defScope s_Machine_begun) rfl rfl (by decide +kernel)) (fun _ _ _ _ _ => (pg_name (i := 4) sc_Machine_begun.nd rfl (by first | exact Or.inl rfl | exact Or.inr rfl))) (fun _ _ _ _ _ => (pts_one (pt_val (pe_meth (pv 0) T.cl_Machine T.me_Machine_takes (F_Machine_takes.up (by decide)).ok hr (F_Machine_takes.up (by decide)).bn .nil passes_no (pa_cons (pv 4) (pa_cons (pv 2) pa_nil)))))) (fun _ _ _ _ _ => (pv 4))) pa_nil)))))), fun ws ka out B F0 Q hC hR hX => ?_⟩)
  obtain ⟨s1, a, l, rfl, m, ps, x, rfl, rfl, rfl, f, hl, rfl, rfl⟩ := hC
  have fa := f.a
  have ff := f.f
  have few := List.length_filter_le (fun a => decide (a ∈ m.fi) || behM m ps a) (List.range m.at_.length)
  rw [List.length_range] at few
  refine q_asg (w := .val (.int ((m.at_.length : Nat) : Int))) ((ev_len (ev_fld (ev_var rfl) .v T.cl_Machine T.na_Machine_atoms rfl) .vl).to (by rw [List.length_map])) ?_
  refine q_asg (w := .val (.lst (nmD ((List.range m.at_.length).filter fun a => decide (a ∈ m.fi) || behM m ps a)))) (evn_filt (xs := List.range m.at_.length) (g := fun i : Nat => W.val (.int (i : Int))) (f := fun i : Nat => D.int (i : Int)) (p := fun a => decide (a ∈ m.fi) || behM m ps a) (C := fun _ => True) (ei_range1 (m := ((m.at_.length : Nat) : Int)) (ea1 (ev_var rfl)) (by omega) (by omega)) (by decide) (by rw [List.length_range]; omega) ⟨trivial, fun _ => trivial⟩ (fun i hi =>
    et_or (et_test (ev_inN (ev_var rfl) (ev_fld (ev_var rfl) .v T.cl_Machine T.na_Machine_firsts rfl) .vl)) (fun _ => et_B (ev_methP (ev_var rfl) .v rfl (ea2 (ev_var rfl) (ev_var rfl)) ⟨_, _, _, rfl, m, ps, i, rfl, rfl, rfl, hl, rfl, rfl⟩))) (fun i hi _ => ev_var rfl)).lst ?_
  exact g_ret hR (ev_cb (ea1 (evn_filt (xs := (List.range m.at_.length).filter fun a => decide (a ∈ m.fi) || behM m ps a) (g := fun i : Nat => W.val (.int (i : Int))) (f := fun i : Nat => D.int (i : Int)) (p := fun a => tkM m a x) (ei_map (ts := (List.range m.at_.length).filter fun a => decide (a ∈ m.fi) || behM m ps a) (f := fun n : Nat => D.int (n : Int)) (ev_var rfl)) (by decide) (by omega) ⟨trivial, fun _ => trivial⟩ (fun i hi => by
    obtain ⟨p, hp⟩ := at_lt (m := m) (List.mem_range.mp (List.mem_filter.mp hi).1)
    exact (et_B (ev_methP (ev_var rfl) .v rfl (ea2 (ev_var rfl) (ev_var rfl)) ⟨_, _, _, rfl, m, i, p, x, rfl, rfl, rfl, hp, rfl, rfl⟩)).to (by rw [tk_at hp])) (fun i hi _ => ev_var rfl)).lst) (rc_tupL .vl (.inl rfl))) ⟨rfl, rfl⟩
end
def ct_Machine_is_done (K : PySem.W.Frag) : Ct := Ct2 fun s a ka out => ∃ (m : Mc) (ps : List Nat), s = .val (McD K m) ∧ a = .val (.tup (nmD ps)) ∧ ps.length ≤ 1000 ∧ ka = [] ∧ out = Rt (.bl (doneM m ps)) []
section
variable {P : Program} {w : World} {K : PySem.W.Frag} {mg : Str → Option Value} {base : Heap}
theorem ok_Machine_is_done (T : Tx K mg) : Fn P w K mg base 4 (He.ma K (He.ga K "Machine") "is_done") ["self", "places"] (ct_Machine_is_done K) := by
  obtain ⟨fd, F⟩ := T.d_Machine_is_done
  refine fn_ok F sc_Machine_is_done (fun _ _ _ _ _ _ us hl => match us, hl with | [_, _], _ => rfl) ct2_len (fun cdv A outer s H E hr => ⟨_, (pss_one (ps_ret (pe_callB (cr_any rfl) rfl T.n_any (by decide +kernel) (pa_cons (pe_lc (te := (tOp (rInU K) (tVar 2) (tFld K (tVar 0) "lasts"))) (tt := tYes) (own := [("place", 2)]) rfl sc_Machine_is_done.nd (pi_seq (pv 1)) (blk_ok ["self", "places", "place"] (defScope s_Machine_is_done) rfl rfl (by decide +kernel)) (fun _ _ _ _ _ => (pg_name (i := 2) sc_Machine_is_done.nd rfl (by first | exact Or.inl rfl | exact Or.inr rfl))) (fun _ _ _ _ _ => pts_nil) (fun _ _ _ _ _ => (pe_cmpR op_inU (pv 2) (pe_fld (pv 0) rfl) (by with_unfolding_all rfl)))) pa_nil)))), fun ws ka out B F0 Q hC hR hX => ?_⟩)
  obtain ⟨s1, a, rfl, m, ps, rfl, rfl, hl, rfl, rfl⟩ := hC
  refine g_ret hR ((ev_cb (ea1 (evn_filt_to (ds := ps.map fun p => D.bl (decide (p ∈ m.la))) (es := (ps.map fun p => decide (p ∈ m.la)).map D.bl) (evn_map (xs := ps) (g := fun n : Nat => W.val (.int (n : Int))) (f := fun p => D.bl (decide (p ∈ m.la))) (C := Stay (.val (.tup (nmD ps))) (nmD ps)) (EvI.ws (ei_seq (ds := nmD ps) (ev_var rfl) .vt) (by unfold nmD; rw [List.map_map]; rfl)) (by decide) (by omega) ⟨trivial, fun _ => trivial⟩ (fun p hp => ev_inN (ev_var rfl) (ev_fld (ev_var rfl) .v T.cl_Machine T.na_Machine_lasts rfl) .vl)) (List.map_map.symm)).lst) (rc_any .vl)).to ?_) ⟨rfl, rfl⟩
  unfold doneM
  rw [List.any_map]
  rfl
end
/-! ### nets as data -/
/-- a lane, its start, its end -/
abbrev Ln := Str × Str × Str
def lnD (r : Ln) : D := .tup [.str r.2.1, .str r.2.2]
def enD (es : List Ln) : List (Key × D) := es.map fun r => (.inr r.1, lnD r)
def lnN (es : List Ln) : List Str := es.map (·.1)
def NetD (K : PySem.W.Frag) (ps : List Str) (es : List Ln) : D := .ins (He.ga K "Net") [("order", .lst (stD ps)), ("ends_by_lane", .dic (enD es))]
def NetC (K : PySem.W.Frag) (a o d : Addr) (ps : List Str) (es : List Ln) : Cells := [(a, .ins (He.ga K "Net") [("order", .adr o), ("ends_by_lane", .adr d)]), (o, .lst (stD ps)), (d, .dic (enD es))]
theorem frz_net {K : PySem.W.Frag} {kt : Cells} {a o d : Addr} {ps : List Str} {es : List Ln} (h : ∀ p ∈ NetC K a o d ps es, p ∈ kt) : FrzD K kt a (NetD K ps es) :=
  frz_i (h _ List.mem_cons_self) ⟨_, _, rfl, .a (frz_l (h _ (List.mem_cons_of_mem _ List.mem_cons_self)) (FzL.same _)), _, _, rfl, .a (frz_d (h _ (List.mem_cons_of_mem _ (List.mem_cons_of_mem _ List.mem_cons_self)))), rfl⟩
theorem net_kd {K : PySem.W.Frag} {a o d : Addr} {ps : List Str} {es : List Ln} : ∀ p ∈ NetC K a o d ps es, ndK p.2 = true := fun p hp => by
  rcases List.mem_cons.mp hp with rfl | hp
  · rfl
  · rcases List.mem_cons.mp hp with rfl | hp
    · rfl
    · rw [List.mem_singleton.mp hp]; rfl
theorem enD_len (es : List Ln) : (enD es).length = es.length := List.length_map _
theorem lnN_len (es : List Ln) : (lnN es).length = es.length := List.length_map _
theorem enD_app (es fs : List Ln) : enD (es ++ fs) = enD es ++ enD fs := List.map_append
theorem enD_get {es : List Ln} (hn : (lnN es).Nodup) {i : Nat} {r : Ln} (h : es[i]? = some r) : getT (enD es) (.inr r.1) = some (lnD r) := by
  induction es generalizing i with
  | nil => cases h
  | cons x l ih =>
    have hn2 := List.nodup_cons.mp hn
    unfold getT enD
    rw [List.map_cons, List.find?_cons]
    cases i with
    | zero =>
      cases h
      rw [decide_eq_true rfl]
      rfl
    | succ i =>
      have hm : r.1 ∈ lnN l := List.mem_map.mpr ⟨r, List.mem_of_getElem? (by simpa using h), rfl⟩
      have ne : ¬ (Sum.inr x.1 : Int ⊕ Str) = .inr r.1 := fun z => hn2.1 (by have e := Sum.inr.inj z; have hm' : r.1 ∈ l.map (fun x : Ln => x.1) := hm; rw [← e] at hm'; exact hm')
      rw [show decide ((Sum.inr x.1 : Int ⊕ Str) = .inr r.1) = false from decide_eq_false ne]
      exact ih hn2.2 (by simpa using h)
theorem enD_getm {es : List Ln} (hn : (lnN es).Nodup) {r : Ln} (h : r ∈ es) : getT (enD es) (.inr r.1) = some (lnD r) := by
  obtain ⟨i, hi⟩ := List.mem_iff_getElem?.mp h
  exact enD_get hn hi
theorem enD_has {es : List Ln} {s : Str} : hasT (enD es) (.inr s) = decide (s ∈ lnN es) := by
  unfold hasT enD lnN
  rw [List.any_map, Bool.eq_iff_iff, List.any_eq_true, decide_eq_true_eq, List.mem_map]
  constructor
  · rintro ⟨r, h1, h2⟩
    exact ⟨r, h1, Sum.inr.inj (of_decide_eq_true h2)⟩
  · rintro ⟨r, h1, h2⟩
    exact ⟨r, h1, decide_eq_true (congrArg Sum.inr h2)⟩
theorem getT_some {κ α : Type} [DecidableEq κ] (kvs : List (κ × α)) (k : κ) : (getT kvs k).isSome = hasT kvs k := by
  unfold getT hasT
  rw [Option.isSome_map]
  induction kvs with
  | nil => rfl
  | cons x l ih =>
    rw [List.find?_cons, List.any_cons]
    cases h : decide (x.1 = k) with
    | true => rfl
    | false => rw [ih]; rfl
theorem enD_in (es : List Ln) (s : Str) : (getT (enD es) (.inr s)).isSome = decide (s ∈ lnN es) := (getT_some _ _).trans enD_has
theorem enD_put {es : List Ln} {r : Ln} (h : ¬ r.1 ∈ lnN es) : putT (enD es) (.inr r.1) (lnD r) = enD (es ++ [r]) := by
  unfold putT
  rw [if_neg (by rw [enD_has, decide_eq_true_eq]; exact h), enD_app]
  rfl
theorem enD_take {es : List Ln} (hn : (lnN es).Nodup) {i : Nat} {r : Ln} (h : es[i]? = some r) : putT (enD (es.take i)) (.inr r.1) (lnD r) = enD (es.take (i + 1)) := by
  rw [enD_put, take_succ_some h]
  intro hm
  have e : lnN es = lnN (es.take i) ++ (r.1 :: lnN (es.drop (i + 1))) := by
    obtain ⟨hi, rfl⟩ := List.getElem?_eq_some_iff.mp h
    unfold lnN
    have e2 : es = es.take i ++ es[i] :: es.drop (i + 1) := by rw [List.getElem_cons_drop, List.take_append_drop]
    exact (congrArg (List.map fun x : Ln => x.1) e2).trans List.map_append
  rw [e, List.nodup_append] at hn
  exact hn.2.2 _ hm _ List.mem_cons_self rfl
theorem enD_at {es : List Ln} {i : Nat} {kv : Key × D} (h : (enD es)[i]? = some kv) : ∃ r, es[i]? = some r ∧ kv = (.inr r.1, lnD r) := by
  unfold enD at h
  rw [List.getElem?_map] at h
  obtain ⟨r, h1, h2⟩ := Option.map_eq_some_iff.mp h
  exact ⟨r, h1, h2.symm⟩
def rowOf (es : List Ln) (l : Str) : Option Ln := es.find? fun r => decide (r.1 = l)
theorem rowOf_mem {es : List Ln} {l : Str} {r : Ln} (h : rowOf es l = some r) : r ∈ es ∧ r.1 = l := ⟨List.mem_of_find?_eq_some h, of_decide_eq_true (p := r.1 = l) (List.find?_some (p := fun r : Ln => decide (r.1 = l)) h)⟩
theorem rowOf_in {es : List Ln} {l : Str} (h : l ∈ lnN es) : ∃ r, rowOf es l = some r := by
  obtain ⟨r, hr, e⟩ := List.mem_map.mp h
  cases hf : rowOf es l with
  | some r => exact ⟨r, rfl⟩
  | none =>
    have := List.find?_eq_none.mp hf r hr
    exact absurd (decide_eq_true e) this
theorem lnN_at {es : List Ln} {i : Nat} {r : Ln} (h : es[i]? = some r) : (lnN es)[i]? = some r.1 := by
  unfold lnN
  rw [List.getElem?_map, h]
  rfl
def stO (es : List Ln) (x : Str) : Str := match rowOf es x with
  | some r => r.2.1
  | none => ""
def enO (es : List Ln) (x : Str) : Str := match rowOf es x with
  | some r => r.2.2
  | none => ""
theorem row_eqn {es : List Ln} (hn : (lnN es).Nodup) {r : Ln} (m : r ∈ es) : rowOf es r.1 = some r := by
  obtain ⟨r', h⟩ := rowOf_in (List.mem_map.mpr ⟨r, m, rfl⟩ : r.1 ∈ lnN es)
  obtain ⟨m', e⟩ := rowOf_mem h
  obtain ⟨i, hi⟩ := List.mem_iff_getElem?.mp m
  obtain ⟨j, hj⟩ := List.mem_iff_getElem?.mp m'
  have hij : i = j := by
    have h1 := lnN_at hi
    have h2 := lnN_at hj
    rw [e] at h2
    exact (List.getElem?_inj (List.getElem?_eq_some_iff.mp h1).1 hn).mp (h1.trans h2.symm)
  subst hij
  rw [hi] at hj
  rw [h, Option.some.inj hj]
theorem stO_eq {es : List Ln} (hn : (lnN es).Nodup) {r : Ln} (m : r ∈ es) : stO es r.1 = r.2.1 := by unfold stO; rw [row_eqn hn m]
theorem enO_eq {es : List Ln} (hn : (lnN es).Nodup) {r : Ln} (m : r ∈ es) : enO es r.1 = r.2.2 := by unfold enO; rw [row_eqn hn m]
def ct_Net___init (K : PySem.W.Frag) : Ct := Ct3 fun s o e ka out => ∃ a t b ps es, s = .val (.adr a) ∧ ka = [(a, .ins (He.ga K "Net") [])] ∧ Lk ka o t (stD ps) b ∧ ps.length ≤ 50000 ∧ es.length ≤ 50000 ∧ (lnN es).Nodup ∧ ((e = .val .non ∧ es = []) ∨ e = .val (.dic (enD es))) ∧
  out = fun o' k => ∃ o d, o' = .ret .non ∧ k = NetC K a o d ps es
section
variable {P : Program} {w : World} {K : PySem.W.Frag} {mg : Str → Option Value} {base : Heap}
theorem ok_Net___init (T : Tx K mg) : FnE P w K mg base 4 (He.ma K (He.ga K "Net") "__init__") ["self", "order", "ends_by_lane"] [.ref (He.dflAt ("Net", some "__init__") 0 K), .non] (ct_Net___init K) := by
  obtain ⟨fd, F⟩ := T.d_Net___init
  refine fn_okE F sc_Net___init (F.binds1 1 0 (by simp) rfl fun _ _ _ _ _ _ _ us its hu hi => match us, its, hu, hi with | [_], [_, _], _, _ => ⟨_, rfl, rfl⟩) (F.binds1 3 2 (by simp) rfl fun _ _ _ _ _ _ _ us its hu hi => match us, its, hu, hi with | [_, _, _], [_, _], _, _ => ⟨_, rfl, rfl⟩) ct3_len (fun cdv A outer s H E hr => ⟨_, (pss_cons (ps_set (i := 3) sc_Net___init.nd rfl (by first | exact Or.inl rfl | exact Or.inr rfl) (pe_ifExp (pt_cmpR op_isN1 (pv 2) pe_non (nomark _)) pe_dnewK (pv 2)))
      (pss_cons (ps_fld (pv 0) (pe_callTy call_lstU rfl T.n_list (by decide +kernel) (pa_cons (pv 1) pa_nil)) rfl)
      (pss_one (ps_fld (pv 0) (pe_lkE (pe_dc (tk := (tVar 4)) (tv := (tDGet (tVar 3) (tVar 4))) (tt := tYes) (own := [("lane", 4)]) rfl sc_Net___init.nd (pi_keys (pv 3)) (blk_ok ["self", "order", "ends_by_lane", "known", "lane"] (defScope s_Net___init) rfl rfl (by decide +kernel)) (fun _ _ _ _ _ => (pg_name (i := 4) sc_Net___init.nd rfl (by first | exact Or.inl rfl | exact Or.inr rfl))) (fun _ _ _ _ _ => pts_nil) (fun _ _ _ _ _ => (pv 4)) (fun _ _ _ _ _ => (pe_dget (hu1 hr) (pv 3) (pv 4) fun _ _ => rfl)))) rfl)))), fun ws ka out B F0 Q hC hR hX => ?_⟩)
  obtain ⟨s, o, e, rfl, a, t, b, ps, es, rfl, rfl, lo, hps, hes, hn, he, rfl⟩ := hC
  have main : Gp K B F0 [] (tSeq (sFld K (tVar 0) (tCB (rLstU K) (tCons (tVar 1) tNil)) "order") (sFld K (tVar 0) (tLkE (tDc (iKeys (tVar 3)) (gName 4) tYes (tVar 4) (tDGet (tVar 3) (tVar 4)) [4])) "ends_by_lane") { nx := fun _ H' => Q .non H', rt := Q })
      [some (.val (.adr a)), some o, some e, some (.val (.dic (enD es))), none] [(a, .ins (He.ga K "Net") [])] := by
    refine q_fldR (C := He.ga K "Net") (a := a) (evn_cb (ea1 (ev_var rfl)) (rcn_lst lo (sqf_stD b ps))).toR T.cl_Net T.na_Net_order (fun w k1 ⟨p, h1, h2⟩ => ⟨.adr p, k1, 0, [], h1, ev_var rfl, by rw [h2]; rfl, by decide, ?_⟩)
    subst h2
    refine g_fldR (C := He.ga K "Net") (a := a) (evr_dcK (evp_var rfl) (by simp) (by rw [enD_len]; omega) (fun i acc k => acc = enD (es.take i) ∧ k = [(a, .ins (He.ga K "Net") [("order", .adr p)]), (p, .lst (stD ps))]) ⟨rfl, rfl⟩ (fun i kv acc k hk ⟨e1, e2⟩ => ?_)).toR T.cl_Net T.na_Net_ends_by_lane (fun w k1 ⟨d, n, k0, h1, ⟨acc, h2, h3, h4⟩, h5⟩ => ⟨.adr d, k1, 0, [("order", .adr p)], h1, ev_var rfl, by rw [h5, h4]; rfl, (show 1 < 900 by decide), ?_⟩)
    · obtain ⟨r, hr1, rfl⟩ := enD_at hk
      subst e1 e2
      exact .inr ⟨_, _, _, .inr r.1, lnD r, et_yes, ev_var rfl, ev_dgetV (ev_var rfl) (ev_var rfl) .v (enD_get hn hr1), enD_take hn hr1, rfl⟩
    · subst h5 h4 h2 h3
      rw [enD_len, List.take_length]
      exact g_end hR ⟨p, d, rfl, rfl⟩
  rcases he with ⟨rfl, rfl⟩ | rfl
  · exact q_asgR (evr_ifT ((et_test (ev_isN (ev_var rfl))).to rfl) evn_dnew.toR) fun w k1 ⟨a1, h1, h2⟩ => by
      subst h1 h2
      exact Gp.frzK (i := 3) rfl (List.Perm.refl _) main
  · exact q_asg (ev_ifF ((et_test (ev_isN (ev_var rfl))).to rfl) (ev_var rfl)) main
end
/-- w is a net: its two fields -/
structure NetW (K : PySem.W.Frag) (ka : Cells) (s : W) (ps : List Str) (es : List Ln) : Prop where
  as : s = .val (NetD K ps es) ∨ ∃ a o d, s = .val (.adr a) ∧ ka = NetC K a o d ps es
theorem NetW.order {K : PySem.W.Frag} {ka : Cells} {s : W} {ps : List Str} {es : List Ln} {te : TE} {ro : Ro} (h : NetW K ka s ps es) (c : Cls K (He.ga K "Net")) (nf : NoAttr K (He.ga K "Net") "order") (he : EvD K te ro ka s ka) :
    ∃ x, EvD K (tFld K te "order") ro ka x ka ∧ Lk ka x false (stD ps) false := by
  rcases h.as with rfl | ⟨a, o, d, rfl, rfl⟩
  · exact ⟨_, ev_fld he .v c nf rfl, .vl⟩
  · exact ⟨_, ev_fld he (.c 0 rfl) c nf rfl, .ce 1 rfl⟩
theorem NetW.ends {K : PySem.W.Frag} {ka : Cells} {s : W} {ps : List Str} {es : List Ln} {te : TE} {ro : Ro} (h : NetW K ka s ps es) (c : Cls K (He.ga K "Net")) (nf : NoAttr K (He.ga K "Net") "ends_by_lane") (he : EvD K te ro ka s ka) :
    ∃ x, EvD K (tFld K te "ends_by_lane") ro ka x ka ∧ Dk ka x (enD es) false := by
  rcases h.as with rfl | ⟨a, o, d, rfl, rfl⟩
  · exact ⟨_, ev_fld he .v c nf rfl, .v⟩
  · exact ⟨_, ev_fld he (.c 0 rfl) c nf rfl, .ce 2 rfl⟩
def ct_Net_posts (K : PySem.W.Frag) : Ct := Ct1 fun s ka out => ∃ ps es, NetW K ka s ps es ∧ out = Rt (.tup (stD ps)) ka
section
variable {P : Program} {w : World} {K : PySem.W.Frag} {mg : Str → Option Value} {base : Heap}
theorem ok_Net_posts (T : Tx K mg) : Fn P w K mg base 4 (pga K (He.ga K "Net") "posts") ["self"] (ct_Net_posts K) := by
  obtain ⟨fd, F⟩ := T.d_Net_posts
  refine fn_ok F sc_Net_posts (fun _ _ _ _ _ _ us hl => match us, hl with | [_], _ => rfl) ct1_len (fun cdv A outer s H E hr => ⟨_, (pss_one (ps_ret (pe_callTy call_tupU rfl T.n_tuple (by decide +kernel) (pa_cons (pe_fld (pv 0) rfl) pa_nil)))), fun ws ka out B F0 Q hC hR hX => ?_⟩)
  obtain ⟨s, rfl, ps, es, h, rfl⟩ := hC
  obtain ⟨x, h1, h2⟩ := h.order T.cl_Net T.na_Net_order (te := tVar 0) (ro := [some s]) (ev_var rfl)
  exact g_ret hR (ev_cb (ea1 h1) (rc_tupL h2 (sqf_stD _ _))) ⟨rfl, rfl⟩
end
def ct_Net_lanes (K : PySem.W.Frag) : Ct := Ct1 fun s ka out => ∃ ps es, s = .val (NetD K ps es) ∧ es.length ≤ 50000 ∧ ka = [] ∧ out = Rt (.tup (stD (lnN es))) []
section
variable {P : Program} {w : World} {K : PySem.W.Frag} {mg : Str → Option Value} {base : Heap}
theorem ok_Net_lanes (T : Tx K mg) : Fn P w K mg base 4 (pga K (He.ga K "Net") "lanes") ["self"] (ct_Net_lanes K) := by
  obtain ⟨fd, F⟩ := T.d_Net_lanes
  refine fn_ok F sc_Net_lanes (fun _ _ _ _ _ _ us hl => match us, hl with | [_], _ => rfl) ct1_len (fun cdv A outer s H E hr => ⟨_, (pss_one (ps_ret (pe_callTy call_tupU rfl T.n_tuple (by decide +kernel) (pa_cons (pe_lkE (pe_lc (te := (tVar 1)) (tt := tYes) (own := [("lane", 1)]) rfl sc_Net_lanes.nd (pi_keys (pe_fld (pv 0) rfl)) (blk_ok ["self", "lane"] (defScope s_Net_lanes) rfl rfl (by decide +kernel)) (fun _ _ _ _ _ => (pg_name (i := 1) sc_Net_lanes.nd rfl (by first | exact Or.inl rfl | exact Or.inr rfl))) (fun _ _ _ _ _ => pts_nil) (fun _ _ _ _ _ => (pv 1)))) pa_nil)))), fun ws ka out B F0 Q hC hR hX => ?_⟩)
  obtain ⟨s, rfl, ps, es, rfl, hl, rfl, rfl⟩ := hC
  refine g_ret hR (ev_cb (ea1 ((evr_lcK (evp_fld (evp_var rfl) T.cl_Net T.na_Net_ends_by_lane rfl) (by decide) (by rw [enD_len]; omega) (fun i acc k => acc = stD (lnN (es.take i)) ∧ k = []) ⟨rfl, rfl⟩ (fun i kv acc k hk ⟨e1, e2⟩ => ?_)).lstD (ds := stD (lnN es)) fun n k ⟨acc, e1, e2, e3⟩ => ⟨?_, e3⟩)) (rc_tupL .vl (.inl rfl))) ⟨rfl, rfl⟩
  all_goals first
    | (rw [e1, e2, enD_len, List.take_length]; done)
    | (subst e1 e2
       obtain ⟨r, hr2, rfl⟩ := enD_at hk
       refine .inr ⟨_, _, .str r.1, et_yes, ev_var rfl, ?_, rfl⟩
       rw [take_succ_some hr2]
       have e : lnN (es.take i ++ [r]) = lnN (es.take i) ++ [r.1] := List.map_append
       rw [e, ← stD_app]
       rfl)
end
/-- how post ends -/
def poO (K : PySem.W.Frag) (a o d : Addr) (ps : List Str) (es : List Ln) (x : D) : Oc :=
  if isNmD x = false then Xt (He.ga K "BadName") [("name", x)] (NetC K a o d ps es)
  else match x with
    | .str s => if s ∈ ps then Xt (He.ga K "NameTaken") [("name", x)] (NetC K a o d ps es) else Rt .non (NetC K a o d (ps ++ [s]) es)
    | _ => fun _ _ => True
def ct_Net_post (K : PySem.W.Frag) : Ct := Ct2 fun s b ka out => ∃ a o d ps es x, s = .val (.adr a) ∧ b = .val x ∧ nmOk x ∧ ps.length < 50000 ∧ ka = NetC K a o d ps es ∧ out = poO K a o d ps es x
section
variable {P : Program} {w : World} {K : PySem.W.Frag} {mg : Str → Option Value} {base : Heap}
theorem ok_Net_post (T : Tx K mg) (F_is_name : Fn P w K mg base 4 (He.ga K "is_name") ["word"] (ct_is_name K)) (Z_BadName : Xn P w K mg base (He.ga K "BadName") "name") (Z_NameTaken : Xn P w K mg base (He.ga K "NameTaken") "name") : Fn P w K mg base 6 (He.ma K (He.ga K "Net") "post") ["self", "name"] (ct_Net_post K) := by
  obtain ⟨fd, F⟩ := T.d_Net_post
  refine fn_ok F sc_Net_post (fun _ _ _ _ _ _ us hl => match us, hl with | [_, _], _ => rfl) ct2_len (fun cdv A outer s H E hr => ⟨_, (pss_cons (ps_if (pt_not (pt_val (pe_call (F_is_name.up (by decide)).ok hr rfl T.g_is_name.1 T.g_is_name.2 (F_is_name.up (by decide)).bn .nil (pass_own rfl rfl rfl rfl) (pa_cons (pv 1) pa_nil))))
      (pss_one (ps_raise rfl (takes_of rfl rfl rfl rfl) (pmk_oex Z_BadName.xc.oex Z_BadName.all.1 Z_BadName.all.2.1 Z_BadName.all.2.2.1 (hr.mono (by decide)) Z_BadName.all.2.2.2 .nil passes_no rfl T.g_BadName.1 (pa_cons (pv 1) pa_nil))))
      pss_nil)
      (pss_cons (ps_if (pt_cmpR op_inU (pv 1) (pe_fld (pv 0) rfl) (by with_unfolding_all rfl))
      (pss_one (ps_raise rfl (takes_of rfl rfl rfl rfl) (pmk_oex Z_NameTaken.xc.oex Z_NameTaken.all.1 Z_NameTaken.all.2.1 Z_NameTaken.all.2.2.1 (hr.mono (by decide)) Z_NameTaken.all.2.2.2 .nil passes_no rfl T.g_NameTaken.1 (pa_cons (pv 1) pa_nil))))
      pss_nil)
      (pss_one (ps_expr (pe_bm PySem.F.plainAttrs_list PySem.F.slot_list_append PySem.F.type_list_append mt_append (pe_fld (pv 0) rfl) (pa_cons (pv 1) pa_nil)))))), fun ws ka out B F0 Q hC hR hX => ?_⟩)
  obtain ⟨s, b, rfl, a, o, d, ps, es, x, rfl, rfl, hx, hl, rfl, rfl⟩ := hC
  refine q_when (et_not (et_B (ev_callP (ea1 (ev_var rfl)) ⟨_, rfl, x, rfl, hx, rfl, rfl⟩))) (fun hb => g_raise1 hX (ea1 (ev_var rfl)) Z_BadName.xc.oex Z_BadName.no ?_) (fun hb => ?_)
  · rw [Bool.not_eq_true'] at hb
    unfold poO
    rw [if_pos hb]
    exact ⟨rfl, rfl⟩
  rw [Bool.not_eq_false'] at hb
  have hs : ∃ s, x = .str s := by
    cases x with
    | str s => exact ⟨s, rfl⟩
    | _ => cases hb
  obtain ⟨s, rfl⟩ := hs
  have fo : ∀ {ro : Ro}, ro[0]? = some (some (.val (.adr a))) → EvD K (tFld K (tVar 0) "order") ro (NetC K a o d ps es) (.val (.adr o)) (NetC K a o d ps es) := fun h => ev_fld (ev_var h) (.c 0 rfl) T.cl_Net T.na_Net_order rfl
  refine q_when (et_test (ev_inL (ev_var rfl) (fo rfl) (.ce 1 rfl))) (fun hm => g_raise1 hX (ea1 (ev_var rfl)) Z_NameTaken.xc.oex Z_NameTaken.no ?_) (fun hm => ?_)
  · rw [decide_eq_true_eq] at hm
    unfold poO
    rw [if_neg (by rw [hb]; decide)]
    show (if s ∈ ps then _ else _ : Oc) _ _
    rw [if_pos hm]
    exact ⟨rfl, rfl⟩
  · rw [decide_eq_false_iff_not] at hm
    refine g_app (j0 := 1) (j := 1) (fo rfl) rfl (ev_var rfl) rfl (by rw [stD_len]; omega) (g_end hR ?_)
    unfold poO
    rw [if_neg (by rw [hb]; decide)]
    show (if s ∈ ps then _ else _ : Oc) _ _
    rw [if_neg hm]
    refine ⟨rfl, ?_⟩
    unfold NetC
    rw [← stD_app]
    rfl
end
/-- how lane ends -/
def laO (K : PySem.W.Frag) (a o d : Addr) (ps : List Str) (es : List Ln) (x : D) (st en : Str) : Oc :=
  if isNmD x = false then Xt (He.ga K "BadName") [("name", x)] (NetC K a o d ps es)
  else match x with
    | .str s => if s ∈ lnN es then Xt (He.ga K "NameTaken") [("name", x)] (NetC K a o d ps es) else if ¬ st ∈ ps then Xt (He.ga K "NoPost") [("name", .str st)] (NetC K a o d ps es) else if ¬ en ∈ ps then Xt (He.ga K "NoPost") [("name", .str en)] (NetC K a o d ps es)
      else Rt .non (NetC K a o d ps (es ++ [(s, st, en)]))
    | _ => fun _ _ => True
def ct_Net_lane (K : PySem.W.Frag) : Ct := Ct4 fun s b c e ka out => ∃ a o d ps es x st en, s = .val (.adr a) ∧ b = .val x ∧ nmOk x ∧ c = .val (.str st) ∧ e = .val (.str en) ∧ es.length < 50000 ∧ ka = NetC K a o d ps es ∧ out = laO K a o d ps es x st en
section
variable {P : Program} {w : World} {K : PySem.W.Frag} {mg : Str → Option Value} {base : Heap}
theorem ok_Net_lane (T : Tx K mg) (F_is_name : Fn P w K mg base 4 (He.ga K "is_name") ["word"] (ct_is_name K)) (Z_BadName : Xn P w K mg base (He.ga K "BadName") "name") (Z_NameTaken : Xn P w K mg base (He.ga K "NameTaken") "name") (Z_NoPost : Xn P w K mg base (He.ga K "NoPost") "name") : Fn P w K mg base 6 (He.ma K (He.ga K "Net") "lane") ["self", "name", "start", "end"] (ct_Net_lane K) := by
  obtain ⟨fd, F⟩ := T.d_Net_lane
  refine fn_ok F sc_Net_lane (fun _ _ _ _ _ _ us hl => match us, hl with | [_, _, _, _], _ => rfl) ct4_len (fun cdv A outer s H E hr => ⟨_, (pss_cons (ps_if (pt_not (pt_val (pe_call (F_is_name.up (by decide)).ok hr rfl T.g_is_name.1 T.g_is_name.2 (F_is_name.up (by decide)).bn .nil (pass_own rfl rfl rfl rfl) (pa_cons (pv 1) pa_nil))))
      (pss_one (ps_raise rfl (takes_of rfl rfl rfl rfl) (pmk_oex Z_BadName.xc.oex Z_BadName.all.1 Z_BadName.all.2.1 Z_BadName.all.2.2.1 (hr.mono (by decide)) Z_BadName.all.2.2.2 .nil passes_no rfl T.g_BadName.1 (pa_cons (pv 1) pa_nil))))
      pss_nil)
      (pss_cons (ps_if (pt_cmp (pc_din (hu1 hr) (pv 1) (pe_fld (pv 0) rfl)) (by with_unfolding_all rfl))
      (pss_one (ps_raise rfl (takes_of rfl rfl rfl rfl) (pmk_oex Z_NameTaken.xc.oex Z_NameTaken.all.1 Z_NameTaken.all.2.1 Z_NameTaken.all.2.2.1 (hr.mono (by decide)) Z_NameTaken.all.2.2.2 .nil passes_no rfl T.g_NameTaken.1 (pa_cons (pv 1) pa_nil))))
      pss_nil)
      (pss_cons (ps_for (passes_of rfl) rfl (pi_seq (pe_tup (pa_cons (pv 2) (pa_cons (pv 3) pa_nil)))) (pg_name (i := 4) sc_Net_lane.nd rfl (by first | exact Or.inl rfl | exact Or.inr rfl)) (pss_one (ps_if (pt_cmpR op_niU (pv 4) (pe_fld (pv 0) rfl) (by with_unfolding_all rfl))
      (pss_one (ps_raise rfl (takes_of rfl rfl rfl rfl) (pmk_oex Z_NoPost.xc.oex Z_NoPost.all.1 Z_NoPost.all.2.1 Z_NoPost.all.2.2.1 (hr.mono (by decide)) Z_NoPost.all.2.2.2 .nil passes_no rfl T.g_NoPost.1 (pa_cons (pv 4) pa_nil))))
      pss_nil)))
      (pss_one (ps_dput (hu1 hr) (pe_fld (pv 0) rfl) (pv 1) (pe_tup (pa_cons (pv 2) (pa_cons (pv 3) pa_nil))) rfl))))), fun ws ka out B F0 Q hC hR hX => ?_⟩)
  obtain ⟨s, b, c, e, rfl, a, o, d, ps, es, x, st, en, rfl, rfl, hx, rfl, rfl, hl, rfl, rfl⟩ := hC
  refine q_when (et_not (et_B (ev_callP (ea1 (ev_var rfl)) ⟨_, rfl, x, rfl, hx, rfl, rfl⟩))) (fun hb => g_raise1 hX (ea1 (ev_var rfl)) Z_BadName.xc.oex Z_BadName.no ?_) (fun hb => ?_)
  · rw [Bool.not_eq_true'] at hb
    unfold laO
    rw [if_pos hb]
    exact ⟨rfl, rfl⟩
  rw [Bool.not_eq_false'] at hb
  have hs : ∃ s, x = .str s := by
    cases x with
    | str s => exact ⟨s, rfl⟩
    | _ => cases hb
  obtain ⟨s, rfl⟩ := hs
  have hb' : ¬ isNmD (.str s) = false := by rw [hb]; decide
  have fo : ∀ {ro : Ro}, ro[0]? = some (some (.val (.adr a))) → EvD K (tFld K (tVar 0) "order") ro (NetC K a o d ps es) (.val (.adr o)) (NetC K a o d ps es) := fun h => ev_fld (ev_var h) (.c 0 rfl) T.cl_Net T.na_Net_order rfl
  have fe : ∀ {ro : Ro}, ro[0]? = some (some (.val (.adr a))) → EvD K (tFld K (tVar 0) "ends_by_lane") ro (NetC K a o d ps es) (.val (.adr d)) (NetC K a o d ps es) := fun h => ev_fld (ev_var h) (.c 0 rfl) T.cl_Net T.na_Net_ends_by_lane rfl
  refine q_when (et_B ((ev_din (ev_var rfl) (fe rfl) (.ce 2 rfl)).to (by rw [enD_in]))) (fun hm => g_raise1 hX (ea1 (ev_var rfl)) Z_NameTaken.xc.oex Z_NameTaken.no ?_) (fun hm => ?_)
  · rw [decide_eq_true_eq] at hm
    unfold laO
    rw [if_neg hb']
    show (if s ∈ lnN es then _ else _ : Oc) _ _
    rw [if_pos hm]
    exact ⟨rfl, rfl⟩
  rw [decide_eq_false_iff_not] at hm
  have hO : laO K a o d ps es (.str s) st en = if ¬ st ∈ ps then Xt (He.ga K "NoPost") [("name", .str st)] (NetC K a o d ps es) else if ¬ en ∈ ps then Xt (He.ga K "NoPost") [("name", .str en)] (NetC K a o d ps es)
        else Rt .non (NetC K a o d ps (es ++ [(s, st, en)])) := by
    unfold laO
    rw [if_neg hb']
    show (if s ∈ lnN es then _ else _ : Oc) = _
    rw [if_neg hm]
  rw [hO] at hR hX
  refine q_forn (ei_seq (ev_tup (ds := [.str st, .str en]) (ea2 (ev_var rfl) (ev_var rfl)) (show 2 ≤ 100000 by decide)) .vt) (fun i ro ka' => ∃ v, ro = [some (.val (.adr a)), some (.val (.str s)), some (.val (.str st)), some (.val (.str en)), v] ∧ ka' = NetC K a o d ps es ∧ (0 < i → st ∈ ps) ∧ (1 < i → en ∈ ps)) ⟨none, rfl, rfl, fun z => absurd z (by decide), fun z => absurd z (by decide)⟩ (fun i ro2 ka2 _ => trivial) (fun i w ro2 ka2 ta' hw ⟨v, e1, e2, h1, h2⟩ => ?_) (fun ro2 ka2 ta' ⟨v, e1, e2, h1, h2⟩ _ => ?_)
  · subst e1 e2
    match i, hw with
    | 0, hw =>
      cases hw
      refine g_if (et_test (ev_niL (ev_var rfl) (fo rfl) (.ce 1 rfl))) (fun hm => g_raise1 hX (ea1 (ev_var rfl)) Z_NoPost.xc.oex Z_NoPost.no ?_) (fun hm => g_next (g_jp ⟨_, rfl, rfl, fun _ => ?_, fun z => by omega⟩))
      · rw [Bool.not_eq_true', decide_eq_false_iff_not] at hm
        rw [if_pos hm]
        exact ⟨rfl, rfl⟩
      · rw [Bool.not_eq_false', decide_eq_true_eq] at hm
        exact hm
    | 1, hw =>
      cases hw
      refine g_if (et_test (ev_niL (ev_var rfl) (fo rfl) (.ce 1 rfl))) (fun hm => g_raise1 hX (ea1 (ev_var rfl)) Z_NoPost.xc.oex Z_NoPost.no ?_) (fun hm => g_next (g_jp ⟨_, rfl, rfl, fun _ => h1 (by decide), fun _ => ?_⟩))
      · rw [Bool.not_eq_true', decide_eq_false_iff_not] at hm
        rw [if_neg (fun z => z (h1 (by decide))), if_pos hm]
        exact ⟨rfl, rfl⟩
      · rw [Bool.not_eq_false', decide_eq_true_eq] at hm
        exact hm
    | i + 2, hw => simp at hw
  · subst e1 e2
    have h1 := h1 (show 0 < 2 by decide)
    have h2 := h2 (show 1 < 2 by decide)
    refine g_dput (j := 2) (ev_tup (ds := [.str st, .str en]) (ea2 (ev_var rfl) (ev_var rfl)) (show 2 ≤ 100000 by decide)) (fe rfl) (ev_var rfl) rfl (by rw [enD_len]; omega) (g_end hR ?_)
    rw [if_neg (fun z => z h1), if_neg (fun z => z h2)]
    refine ⟨rfl, ?_⟩
    have := enD_put (r := (s, st, en)) hm
    unfold NetC
    rw [← this]
    rfl
end
def ct_Net_start_of (K : PySem.W.Frag) : Ct := Ct2 fun s b ka out => ∃ ps es l, NetW K ka s ps es ∧ b = .val (.str l) ∧ (lnN es).Nodup ∧ ((∃ r ∈ es, r.1 = l ∧ out = Rt (.str r.2.1) ka) ∨ (¬ l ∈ lnN es ∧ out = Xt (He.ga K "NoLane") [("name", .str l)] ka))
section
variable {P : Program} {w : World} {K : PySem.W.Frag} {mg : Str → Option Value} {base : Heap}
theorem ok_Net_start_of (T : Tx K mg) (Z_NoLane : Xn P w K mg base (He.ga K "NoLane") "name") : Fn P w K mg base 4 (He.ma K (He.ga K "Net") "start_of") ["self", "lane"] (ct_Net_start_of K) := by
  obtain ⟨fd, F⟩ := T.d_Net_start_of
  refine fn_ok F sc_Net_start_of (fun _ _ _ _ _ _ us hl => match us, hl with | [_, _], _ => rfl) ct2_len (fun cdv A outer s H E hr => ⟨_, (pss_cons (ps_if (pt_cmp (pc_dnotin (hu1 hr) (pv 1) (pe_fld (pv 0) rfl)) (by with_unfolding_all rfl))
      (pss_one (ps_raise rfl (takes_of rfl rfl rfl rfl) (pmk_oex Z_NoLane.xc.oex Z_NoLane.all.1 Z_NoLane.all.2.1 Z_NoLane.all.2.2.1 (hr.mono (by decide)) Z_NoLane.all.2.2.2 .nil passes_no rfl T.g_NoLane.1 (pa_cons (pv 1) pa_nil))))
      pss_nil)
      (pss_one (ps_ret (pe_ix ix_seq (pe_dget (hu1 hr) (pe_fld (pv 0) rfl) (pv 1) fun _ _ => rfl) pe_int fun _ _ => rfl)))), fun ws ka out B F0 Q hC hR hX => ?_⟩)
  obtain ⟨s, b, rfl, ps, es, l, h, rfl, hn, ho⟩ := hC
  obtain ⟨x, h1, h2⟩ := h.ends T.cl_Net T.na_Net_ends_by_lane (te := tVar 0) (ro := [some s, some (.val (.str l))]) (ev_var rfl)
  refine q_when (et_B ((ev_dni (ev_var rfl) h1 h2).to (by rw [enD_in]))) (fun hb => ?_) (fun hb => ?_)
  · rw [Bool.not_eq_true', decide_eq_false_iff_not] at hb
    refine g_raise1 hX (ea1 (ev_var rfl)) Z_NoLane.xc.oex Z_NoLane.no ?_
    rcases ho with ⟨r, hr, e, _⟩ | ⟨_, rfl⟩
    · exact absurd (List.mem_map.mpr ⟨r, hr, e⟩) hb
    · exact ⟨rfl, rfl⟩
  · rw [Bool.not_eq_false', decide_eq_true_eq] at hb
    rcases ho with ⟨r, hr, rfl, rfl⟩ | ⟨z, _⟩
    · obtain ⟨i, hi⟩ := List.mem_iff_getElem?.mp hr
      exact g_ret hR (ev_ixV (ev_dgetV (d := lnD r) h1 (ev_var rfl) h2 (enD_get hn hi)) ev_int .vt (atI_nat (j := 0) rfl)) ⟨rfl, rfl⟩
    · exact absurd hb z
end
def ct_Net_end_of (K : PySem.W.Frag) : Ct := Ct2 fun s b ka out => ∃ ps es l, NetW K ka s ps es ∧ b = .val (.str l) ∧ (lnN es).Nodup ∧ ((∃ r ∈ es, r.1 = l ∧ out = Rt (.str r.2.2) ka) ∨ (¬ l ∈ lnN es ∧ out = Xt (He.ga K "NoLane") [("name", .str l)] ka))
section
variable {P : Program} {w : World} {K : PySem.W.Frag} {mg : Str → Option Value} {base : Heap}
theorem ok_Net_end_of (T : Tx K mg) (Z_NoLane : Xn P w K mg base (He.ga K "NoLane") "name") : Fn P w K mg base 4 (He.ma K (He.ga K "Net") "end_of") ["self", "lane"] (ct_Net_end_of K) := by
  obtain ⟨fd, F⟩ := T.d_Net_end_of
  refine fn_ok F sc_Net_end_of (fun _ _ _ _ _ _ us hl => match us, hl with | [_, _], _ => rfl) ct2_len (fun cdv A outer s H E hr => ⟨_, (pss_cons (ps_if (pt_cmp (pc_dnotin (hu1 hr) (pv 1) (pe_fld (pv 0) rfl)) (by with_unfolding_all rfl))
      (pss_one (ps_raise rfl (takes_of rfl rfl rfl rfl) (pmk_oex Z_NoLane.xc.oex Z_NoLane.all.1 Z_NoLane.all.2.1 Z_NoLane.all.2.2.1 (hr.mono (by decide)) Z_NoLane.all.2.2.2 .nil passes_no rfl T.g_NoLane.1 (pa_cons (pv 1) pa_nil))))
      pss_nil)
      (pss_one (ps_ret (pe_ix ix_seq (pe_dget (hu1 hr) (pe_fld (pv 0) rfl) (pv 1) fun _ _ => rfl) pe_int fun _ _ => rfl)))), fun ws ka out B F0 Q hC hR hX => ?_⟩)
  obtain ⟨s, b, rfl, ps, es, l, h, rfl, hn, ho⟩ := hC
  obtain ⟨x, h1, h2⟩ := h.ends T.cl_Net T.na_Net_ends_by_lane (te := tVar 0) (ro := [some s, some (.val (.str l))]) (ev_var rfl)
  refine q_when (et_B ((ev_dni (ev_var rfl) h1 h2).to (by rw [enD_in]))) (fun hb => ?_) (fun hb => ?_)
  · rw [Bool.not_eq_true', decide_eq_false_iff_not] at hb
    refine g_raise1 hX (ea1 (ev_var rfl)) Z_NoLane.xc.oex Z_NoLane.no ?_
    rcases ho with ⟨r, hr, e, _⟩ | ⟨_, rfl⟩
    · exact absurd (List.mem_map.mpr ⟨r, hr, e⟩) hb
    · exact ⟨rfl, rfl⟩
  · rw [Bool.not_eq_false', decide_eq_true_eq] at hb
    rcases ho with ⟨r, hr, rfl, rfl⟩ | ⟨z, _⟩
    · obtain ⟨i, hi⟩ := List.mem_iff_getElem?.mp hr
      exact g_ret hR (ev_ixV (ev_dgetV (d := lnD r) h1 (ev_var rfl) h2 (enD_get hn hi)) ev_int .vt (atI_nat (j := 1) rfl)) ⟨rfl, rfl⟩
    · exact absurd hb z
end
/-- the lanes that leave a post -/
def outL (es : List Ln) (p : Str) : List Str := lnN (es.filter fun r => decide (r.2.1 = p))
theorem flt_snoc {α : Type} {f : α → Bool} {xs : List α} {i : Nat} {x : α} (h : xs[i]? = some x) : (xs.take (i + 1)).filter f = (xs.take i).filter f ++ if f x = true then [x] else [] := by
  rw [take_succ_some h, List.filter_append, List.filter_cons]
  split <;> rfl
theorem lnD_st (K : PySem.W.Frag) {ro : Ro} {ka k1 : Cells} {te : TE} {r : Ln} (h : EvD K te ro ka (.val (lnD r)) k1) : EvD K (tOp (rIx K) te (tC (.int 0))) ro ka (.val (.str r.2.1)) k1 := ev_ixV h ev_int .vt (atI_nat (j := 0) rfl)
def ct_Net_out_of (K : PySem.W.Frag) : Ct := Ct2 fun s b ka out => ∃ ps es p, s = .val (NetD K ps es) ∧ b = .val (.str p) ∧ (lnN es).Nodup ∧ es.length ≤ 50000 ∧ ka = [] ∧ out = if p ∈ ps then Rt (.tup (stD (outL es p))) [] else Xt (He.ga K "NoPost") [("name", .str p)] []
section
variable {P : Program} {w : World} {K : PySem.W.Frag} {mg : Str → Option Value} {base : Heap}
theorem ok_Net_out_of (T : Tx K mg) (Z_NoPost : Xn P w K mg base (He.ga K "NoPost") "name") : Fn P w K mg base 4 (He.ma K (He.ga K "Net") "out_of") ["self", "post"] (ct_Net_out_of K) := by
  obtain ⟨fd, F⟩ := T.d_Net_out_of
  refine fn_ok F sc_Net_out_of (fun _ _ _ _ _ _ us hl => match us, hl with | [_, _], _ => rfl) ct2_len (fun cdv A outer s H E hr => ⟨_, (pss_cons (ps_if (pt_cmpR op_niU (pv 1) (pe_fld (pv 0) rfl) (by with_unfolding_all rfl))
      (pss_one (ps_raise rfl (takes_of rfl rfl rfl rfl) (pmk_oex Z_NoPost.xc.oex Z_NoPost.all.1 Z_NoPost.all.2.1 Z_NoPost.all.2.2.1 (hr.mono (by decide)) Z_NoPost.all.2.2.2 .nil passes_no rfl T.g_NoPost.1 (pa_cons (pv 1) pa_nil))))
      pss_nil)
      (pss_one (ps_ret (pe_callTy call_tupU rfl T.n_tuple (by decide +kernel) (pa_cons (pe_lkE (pe_lc (te := (tVar 2)) (tt := (tTest (tOp (rEqP K false) (tOp (rIx K) (tDGet (tFld K (tVar 0) "ends_by_lane") (tVar 2)) (tC (.int 0))) (tVar 1)))) (own := [("lane", 2)]) rfl sc_Net_out_of.nd (pi_keys (pe_fld (pv 0) rfl)) (blk_ok ["self", "post", "lane"] (defScope s_Net_out_of) rfl rfl (by decide +kernel)) (fun _ _ _ _ _ => (pg_name (i := 2) sc_Net_out_of.nd rfl (by first | exact Or.inl rfl | exact Or.inr rfl))) (fun _ _ _ _ _ => (pts_one (pt_cmpR (op_eqP (by have := (hr).units; exact this)) (pe_ix ix_seq (pe_dget (hu1 hr) (pe_fld (pv 0) rfl) (pv 2) fun _ _ => rfl) pe_int fun _ _ => rfl) (pv 1) (nomark _)))) (fun _ _ _ _ _ => (pv 2)))) pa_nil))))), fun ws ka out B F0 Q hC hR hX => ?_⟩)
  obtain ⟨s, b, rfl, ps, es, p, rfl, rfl, hn, hl, rfl, rfl⟩ := hC
  refine q_when (et_test (ev_niL (ev_var rfl) (ev_fld (ev_var rfl) .v T.cl_Net T.na_Net_order rfl) .vl)) (fun hb => ?_) (fun hb => ?_)
  · rw [Bool.not_eq_true', decide_eq_false_iff_not] at hb
    rw [if_neg hb] at hX
    exact g_raise1 hX (ea1 (ev_var rfl)) Z_NoPost.xc.oex Z_NoPost.no ⟨rfl, rfl⟩
  rw [Bool.not_eq_false', decide_eq_true_eq] at hb
  rw [if_pos hb] at hR
  refine g_ret hR (ev_cb (ea1 ((evr_lcK (evp_fld (evp_var rfl) T.cl_Net T.na_Net_ends_by_lane rfl) (by decide) (by rw [enD_len]; omega) (fun i acc k => acc = stD (outL (es.take i) p) ∧ k = []) ⟨rfl, rfl⟩ (fun i kv acc k hk ⟨e1, e2⟩ => ?_)).lstD (ds := stD (outL es p)) fun n k ⟨acc, e1, e2, e3⟩ => ⟨?_, e3⟩)) (rc_tupL .vl (.inl rfl))) ⟨rfl, rfl⟩
  rotate_left
  · rw [e1, e2, enD_len, List.take_length]
  subst e1 e2
  obtain ⟨r, hr2, rfl⟩ := enD_at hk
  have hm := List.mem_of_getElem? hr2
  have t1 : EvT K (tTest (tOp (rEqP K false) (tOp (rIx K) (tDGet (tFld K (tVar 0) "ends_by_lane") (tVar 2)) (tC (.int 0))) (tVar 1))) ((wipeR [some (.val (NetD K ps es)), some (.val (.str p)), none] [2]).set 2 (some (.val (.str r.1)))) [] (r.2.1 == p) [] := et_test (ev_eqS (lnD_st K (ev_dgetV (d := lnD r) (ev_fld (ev_var rfl) .v T.cl_Net T.na_Net_ends_by_lane rfl) (ev_var rfl) .v (enD_getm hn hm))) (ev_var rfl))
  have e0 : outL (es.take (i + 1)) p = outL (es.take i) p ++ if decide (r.2.1 = p) = true then [r.1] else [] := by
    unfold outL
    rw [flt_snoc hr2]
    unfold lnN
    rw [List.map_append]
    split <;> rfl
  rw [e0]
  by_cases h : r.2.1 = p
  · rw [beq_iff_eq.mpr h] at t1
    refine .inr ⟨_, _, .str r.1, t1, ev_var rfl, ?_, rfl⟩
    rw [if_pos (decide_eq_true h), ← stD_app]
    rfl
  · rw [beq_eq_false_iff_ne.mpr h] at t1
    refine .inl ⟨_, t1, ?_, rfl⟩
    rw [if_neg (by rw [decide_eq_false h]; decide), List.append_nil]
end
def ct_Net_copy (K : PySem.W.Frag) : Ct := Ct1 fun s ka out => ∃ ps es, s = .val (NetD K ps es) ∧ ps.length ≤ 50000 ∧ es.length ≤ 50000 ∧ (lnN es).Nodup ∧ ka = [] ∧ out = fun o' k => ∃ a o d, o' = .ret (.adr a) ∧ k = NetC K a o d ps es
section
variable {P : Program} {w : World} {K : PySem.W.Frag} {mg : Str → Option Value} {base : Heap}
theorem ok_Net_copy (T : Tx K mg) (F_Net___init : FnE P w K mg base 4 (He.ma K (He.ga K "Net") "__init__") ["self", "order", "ends_by_lane"] [.ref (He.dflAt ("Net", some "__init__") 0 K), .non] (ct_Net___init K)) : Fn P w K mg base 6 (He.ma K (He.ga K "Net") "copy") ["self"] (ct_Net_copy K) := by
  obtain ⟨fd, F⟩ := T.d_Net_copy
  refine fn_ok F sc_Net_copy (fun _ _ _ _ _ _ us hl => match us, hl with | [_], _ => rfl) ct1_len (fun cdv A outer s H E hr => ⟨_, (pss_one (ps_ret (pe_make T.mk_Net (F_Net___init.a.up (by decide)).ok hr rfl T.g_Net.1 (F_Net___init.a.up (by decide)).bn .nil (pass_own rfl rfl rfl rfl) (pa_cons (pe_fld (pv 0) rfl) (pa_cons (pe_fld (pv 0) rfl) pa_nil))))), fun ws ka out B F0 Q hC hR hX => ?_⟩)
  obtain ⟨s, rfl, ps, es, rfl, hl, hel, hn, rfl, rfl⟩ := hC
  refine g_retE (Q := fun w k => ∃ a o d, w = .val (.adr a) ∧ k = NetC K a o d ps es) hR (evr_make (wd := []) (k1 := []) (ea2 (ev_fld (ev_var rfl) .v T.cl_Net T.na_Net_order rfl) (ev_fld (ev_var rfl) .v T.cl_Net T.na_Net_ends_by_lane rfl)) dv_nil (fun a => ⟨_, ⟨_, _, _, rfl, a, false, false, ps, es, rfl, rfl, .vl, hl, hel, hn, .inr rfl, rfl⟩, fun o k ⟨o2, d, e1, e2⟩ => ⟨e1, a, o2, d, rfl, e2⟩⟩)) (fun w k ⟨a, o, d, e1, e2⟩ => ⟨.adr a, e1, a, o, d, rfl, e2⟩)
end
/-- the lanes turned about -/
def revE (es : List Ln) : List Ln := es.map fun r => (r.1, r.2.2, r.2.1)
theorem revE_len (es : List Ln) : (revE es).length = es.length := List.length_map _
theorem lnN_revE (es : List Ln) : lnN (revE es) = lnN es := by
  unfold lnN revE
  rw [List.map_map]
  rfl
def ct_Net___neg (K : PySem.W.Frag) : Ct := Ct1 fun s ka out => ∃ ps es, s = .val (NetD K ps es) ∧ ps.length ≤ 50000 ∧ es.length ≤ 50000 ∧ (lnN es).Nodup ∧ ka = [] ∧ out = fun o' k => ∃ a o d, o' = .ret (.adr a) ∧ k = NetC K a o d ps (revE es)
section
variable {P : Program} {w : World} {K : PySem.W.Frag} {mg : Str → Option Value} {base : Heap}
theorem ok_Net___neg (T : Tx K mg) (F_Net___init : FnE P w K mg base 4 (He.ma K (He.ga K "Net") "__init__") ["self", "order", "ends_by_lane"] [.ref (He.dflAt ("Net", some "__init__") 0 K), .non] (ct_Net___init K)) : Fn P w K mg base 6 (He.ma K (He.ga K "Net") "__neg__") ["self"] (ct_Net___neg K) := by
  obtain ⟨fd, F⟩ := T.d_Net___neg
  refine fn_ok F sc_Net___neg (fun _ _ _ _ _ _ us hl => match us, hl with | [_], _ => rfl) ct1_len (fun cdv A outer s H E hr => ⟨_, (pss_one (ps_ret (pe_make T.mk_Net (F_Net___init.a.up (by decide)).ok hr rfl T.g_Net.1 (F_Net___init.a.up (by decide)).bn .nil (pass_own rfl rfl rfl rfl) (pa_cons (pe_fld (pv 0) rfl) (pa_cons (pe_lkE (pe_dc (tk := (tVar 1)) (tv := (tBackT K (tDGet (tFld K (tVar 0) "ends_by_lane") (tVar 1)))) (tt := tYes) (own := [("lane", 1)]) rfl sc_Net___neg.nd (pi_keys (pe_fld (pv 0) rfl)) (blk_ok ["self", "lane"] (defScope s_Net___neg) rfl rfl (by decide +kernel)) (fun _ _ _ _ _ => (pg_name (i := 1) sc_Net___neg.nd rfl (by first | exact Or.inl rfl | exact Or.inr rfl))) (fun _ _ _ _ _ => pts_nil) (fun _ _ _ _ _ => (pv 1)) (fun _ _ _ _ _ => (pe_backT (pe_dget (hu1 hr) (pe_fld (pv 0) rfl) (pv 1) fun _ _ => rfl))))) pa_nil))))), fun ws ka out B F0 Q hC hR hX => ?_⟩)
  obtain ⟨s, rfl, ps, es, rfl, hl, hel, hn, rfl, rfl⟩ := hC
  have hn2 : (lnN (revE es)).Nodup := by rw [lnN_revE]; exact hn
  refine g_retE (Q := fun w k => ∃ a o d, w = .val (.adr a) ∧ k = NetC K a o d ps (revE es)) hR (evr_make (wd := []) (k1 := []) (ea2 (ev_fld (ev_var rfl) .v T.cl_Net T.na_Net_order rfl) ((evr_dcK (evp_fld (evp_var rfl) T.cl_Net T.na_Net_ends_by_lane rfl) (by decide) (by rw [enD_len]; omega) (fun i acc k => acc = enD ((revE es).take i) ∧ k = []) ⟨rfl, rfl⟩ (fun i kv acc k hk ⟨e1, e2⟩ => ?_)).dicD (ms := enD (revE es)) fun n k ⟨acc, e1, e2, e3⟩ => ⟨?_, e3⟩)) dv_nil (fun a => ⟨_, ⟨_, _, _, rfl, a, false, false, ps, revE es, rfl, rfl, .vl, hl, by rw [revE_len]; exact hel, hn2, .inr rfl, rfl⟩, fun o k ⟨o2, d, e1, e2⟩ => ⟨e1, a, o2, d, rfl, e2⟩⟩)) (fun w k ⟨a, o, d, e1, e2⟩ => ⟨.adr a, e1, a, o, d, rfl, e2⟩)
  · subst e1 e2
    obtain ⟨r, hr1, rfl⟩ := enD_at hk
    have hr2 : (revE es)[i]? = some (r.1, r.2.2, r.2.1) := by unfold revE; rw [List.getElem?_map, hr1]; rfl
    exact .inr ⟨_, _, _, .inr r.1, lnD (r.1, r.2.2, r.2.1), et_yes, ev_var rfl, (ev_backT (ds := [.str r.2.1, .str r.2.2]) (ev_dgetV (d := lnD r) (ev_fld (ev_var rfl) .v T.cl_Net T.na_Net_ends_by_lane rfl) (ev_var rfl) .v (enD_get hn hr1))).to rfl, enD_take hn2 hr2, rfl⟩
  · rw [e1, e2, enD_len, ← revE_len, List.take_length]
end
/-- the lanes but some -/
def cutE (es : List Ln) (ls : List Str) : List Ln := es.filter fun r => !decide (r.1 ∈ ls)
theorem cutE_nd {es : List Ln} (h : (lnN es).Nodup) (ls : List Str) : (lnN (cutE es ls)).Nodup := (List.filter_sublist.map _).nodup h
theorem cutE_len (es : List Ln) (ls : List Str) : (cutE es ls).length ≤ es.length := List.length_filter_le _ _
theorem cutE_sub {es : List Ln} {ls : List Str} {r : Ln} (h : r ∈ cutE es ls) : r ∈ es := (List.mem_filter.mp h).1
def ct_Net___sub (K : PySem.W.Frag) : Ct := Ct2 fun s b ka out => ∃ ps es ls, s = .val (NetD K ps es) ∧ b = .val (.tup (stD ls)) ∧ ps.length ≤ 50000 ∧ es.length ≤ 50000 ∧ (lnN es).Nodup ∧ ka = [] ∧
  out = match ls.find? (fun x => !decide (x ∈ lnN es)) with
    | some x => Xt (He.ga K "NoLane") [("name", .str x)] []
    | none => fun o' k => ∃ a o d, o' = .ret (.adr a) ∧ k = NetC K a o d ps (cutE es ls)
section
variable {P : Program} {w : World} {K : PySem.W.Frag} {mg : Str → Option Value} {base : Heap}
theorem ok_Net___sub (T : Tx K mg) (F_first_missing : Fn P w K mg base 4 (He.ga K "first_missing") ["names", "known"] (ct_first_missing K)) (F_Net___init : FnE P w K mg base 4 (He.ma K (He.ga K "Net") "__init__") ["self", "order", "ends_by_lane"] [.ref (He.dflAt ("Net", some "__init__") 0 K), .non] (ct_Net___init K)) (Z_NoLane : Xn P w K mg base (He.ga K "NoLane") "name") : Fn P w K mg base 6 (He.ma K (He.ga K "Net") "__sub__") ["self", "lanes"] (ct_Net___sub K) := by
  obtain ⟨fd, F⟩ := T.d_Net___sub
  refine fn_ok F sc_Net___sub (fun _ _ _ _ _ _ us hl => match us, hl with | [_, _], _ => rfl) ct2_len (fun cdv A outer s H E hr => ⟨_, (pss_cons (ps_set (i := 2) sc_Net___sub.nd rfl (by first | exact Or.inl rfl | exact Or.inr rfl) (pe_call (F_first_missing.up (by decide)).ok hr rfl T.g_first_missing.1 T.g_first_missing.2 (F_first_missing.up (by decide)).bn .nil (pass_own rfl rfl rfl rfl) (pa_cons (pv 1) (pa_cons (pe_fld (pv 0) rfl) pa_nil))))
      (pss_cons (ps_if (pt_cmpR op_notN1 (pv 2) pe_non (nomark _))
      (pss_one (ps_raise rfl (takes_of rfl rfl rfl rfl) (pmk_oex Z_NoLane.xc.oex Z_NoLane.all.1 Z_NoLane.all.2.1 Z_NoLane.all.2.2.1 (hr.mono (by decide)) Z_NoLane.all.2.2.2 .nil passes_no rfl T.g_NoLane.1 (pa_cons (pv 2) pa_nil))))
      pss_nil)
      (pss_one (ps_ret (pe_make T.mk_Net (F_Net___init.a.up (by decide)).ok hr rfl T.g_Net.1 (F_Net___init.a.up (by decide)).bn .nil (pass_own rfl rfl rfl rfl) (pa_cons (pe_fld (pv 0) rfl) (pa_cons (pe_lkE (pe_dc (tk := (tVar 3)) (tv := (tDGet (tFld K (tVar 0) "ends_by_lane") (tVar 3))) (tt := (tTest (tOp (rNiU K) (tVar 3) (tVar 1)))) (own := [("lane", 3)]) rfl sc_Net___sub.nd (pi_keys (pe_fld (pv 0) rfl)) (blk_ok ["self", "lanes", "missing", "lane"] (defScope s_Net___sub) rfl rfl (by decide +kernel)) (fun _ _ _ _ _ => (pg_name (i := 3) sc_Net___sub.nd rfl (by first | exact Or.inl rfl | exact Or.inr rfl))) (fun _ _ _ _ _ => (pts_one (pt_cmpR op_niU (pv 3) (pv 1) (by with_unfolding_all rfl)))) (fun _ _ _ _ _ => (pv 3)) (fun _ _ _ _ _ => (pe_dget (hu1 hr) (pe_fld (pv 0) rfl) (pv 3) fun _ _ => rfl)))) pa_nil))))))), fun ws ka out B F0 Q hC hR hX => ?_⟩)
  obtain ⟨s, b, rfl, ps, es, ls, rfl, rfl, hl, hel, hn, rfl, rfl⟩ := hC
  have step : ∀ {i : Nat} {r : Ln}, es[i]? = some r → cutE (es.take (i + 1)) ls = cutE (es.take i) ls ++ if (!decide (r.1 ∈ ls)) = true then [r] else [] := fun {i r} h => by
    unfold cutE
    exact flt_snoc h
  have fmv : EvD K (tCall (spC K (ct_first_missing K)) [] E (tCons (tVar 1) (tCons (tFld K (tVar 0) "ends_by_lane") tNil))) [some (.val (NetD K ps es)), some (.val (.tup (stD ls))), none, none] [] (.val (fmD ls (lnN es))) [] := ev_callP (ea2 (ev_var rfl) (ev_fld (ev_var rfl) .v T.cl_Net T.na_Net_ends_by_lane rfl)) ⟨_, _, rfl, ls, lnN es, true, false, .vt, .dc .v (enD_in es), rfl⟩
  cases hf : ls.find? (fun x => !decide (x ∈ lnN es)) with
  | some x =>
    rw [hf] at hX
    have e1 : fmD ls (lnN es) = .str x := by unfold fmD; rw [hf]
    rw [e1] at fmv
    exact q_asg fmv (q_when ((et_test (ev_notN (d := .str x) (ev_var rfl) (.inl rfl))).to (b := true) rfl) (fun _ => g_raise1 hX (ea1 (ev_var rfl)) Z_NoLane.xc.oex Z_NoLane.no ⟨rfl, rfl⟩) (fun z => by cases z))
  | none =>
    rw [hf] at hR
    have e1 : fmD ls (lnN es) = .non := by unfold fmD; rw [hf]
    rw [e1] at fmv
    refine q_asg fmv (q_when ((et_test (ev_notN (d := .non) (ev_var rfl) (.inl rfl))).to (b := false) rfl) (fun z => by cases z) (fun _ => ?_))
    refine g_retE (Q := fun w k => ∃ a o d, w = .val (.adr a) ∧ k = NetC K a o d ps (cutE es ls)) hR (evr_make (wd := []) (k1 := []) (ea2 (ev_fld (ev_var rfl) .v T.cl_Net T.na_Net_order rfl) ((evr_dcK (evp_fld (evp_var rfl) T.cl_Net T.na_Net_ends_by_lane rfl) (by decide) (by rw [enD_len]; omega) (fun i acc k => acc = enD (cutE (es.take i) ls) ∧ k = []) ⟨rfl, rfl⟩ (fun i kv acc k hk ⟨e1, e2⟩ => ?_)).dicD (ms := enD (cutE es ls)) fun n k ⟨acc, e1, e2, e3⟩ => ⟨?_, e3⟩)) dv_nil (fun a => ⟨_, ⟨_, _, _, rfl, a, false, false, ps, cutE es ls, rfl, rfl, .vl, hl, Nat.le_trans (cutE_len es ls) hel, cutE_nd hn ls, .inr rfl, rfl⟩, fun o k ⟨o2, d, e1, e2⟩ => ⟨e1, a, o2, d, rfl, e2⟩⟩)) (fun w k ⟨a, o, d, e1, e2⟩ => ⟨.adr a, e1, a, o, d, rfl, e2⟩)
    · subst e1 e2
      obtain ⟨r, hr1, rfl⟩ := enD_at hk
      have st := step hr1
      have t1 : EvT K (tTest (tOp (rNiU K) (tVar 3) (tVar 1))) ((wipeR [some (.val (NetD K ps es)), some (.val (.tup (stD ls))), some (.val .non), none] [3]).set 3 (some (.val (.str r.1)))) [] (!decide (r.1 ∈ ls)) [] := et_test (ev_niL (ev_var rfl) (ev_var rfl) .vt)
      cases hb : !decide (r.1 ∈ ls) with
      | false =>
        rw [hb] at t1 st
        rw [if_neg (by decide), List.append_nil] at st
        exact .inl ⟨_, t1, by rw [st], rfl⟩
      | true =>
        rw [hb] at t1 st
        rw [if_pos rfl] at st
        refine .inr ⟨_, _, _, .inr r.1, lnD r, t1, ev_var rfl, ev_dgetV (d := lnD r) (ev_fld (ev_var rfl) .v T.cl_Net T.na_Net_ends_by_lane rfl) (ev_var rfl) .v (enD_get hn hr1), ?_, rfl⟩
        rw [st, enD_put]
        intro hm
        obtain ⟨r', hr', e⟩ := List.mem_map.mp hm
        have hm2 : r' ∈ es.take i := cutE_sub hr'
        obtain ⟨j, hj⟩ := List.getElem?_of_mem hm2
        have hji : j < i := by
          have := (List.getElem?_eq_some_iff.mp hj).1
          rw [List.length_take] at this
          omega
        rw [List.getElem?_take_of_lt hji] at hj
        have a1 : (lnN es)[j]? = some r.1 := by unfold lnN; rw [List.getElem?_map, hj]; exact congrArg some e
        have a2 : (lnN es)[i]? = some r.1 := by unfold lnN; rw [List.getElem?_map, hr1]; rfl
        have := (List.getElem?_inj (List.getElem?_eq_some_iff.mp a1).1 hn).mp (a1.trans a2.symm)
        omega
    · rw [e1, e2, enD_len, List.take_length]
end
def rwL (r : Ln) : D := .tup [.str r.1, .str r.2.1, .str r.2.2]
def rwD (es : List Ln) : List D := es.map rwL
def PtD (ps : List Str) (es : List Ln) : D := .lst [.lst (stD ps), .lst (rwD es)]
/-- posts and lanes of a net -/
structure PtOk (ps : List Str) (es : List Ln) : Prop where
  pn : ∀ p ∈ ps, isNm p = true
  pd : ps.Nodup
  en : ∀ r ∈ es, isNm r.1 = true
  ed : (lnN es).Nodup
  st : ∀ r ∈ es, r.2.1 ∈ ps ∧ r.2.2 ∈ ps
  pl : ps.length ≤ 40
  el : es.length ≤ 100
theorem nm_ok {s : Str} (h : isNm s = true) : nmOk (.str s) := Nat.le_trans (isNm_len h) (by decide)
theorem po_ok {K : PySem.W.Frag} {a o d : Addr} {ps : List Str} {es : List Ln} {s : Str} (h : isNm s = true) (hn : ¬ s ∈ ps) : poO K a o d ps es (.str s) = Rt .non (NetC K a o d (ps ++ [s]) es) := by
  unfold poO
  rw [if_neg (by show ¬ isNm s = false; rw [h]; decide)]
  exact if_neg hn
theorem la_ok {K : PySem.W.Frag} {a o d : Addr} {ps : List Str} {es : List Ln} {s st en : Str} (h : isNm s = true) (hn : ¬ s ∈ lnN es) (h1 : st ∈ ps) (h2 : en ∈ ps) : laO K a o d ps es (.str s) st en = Rt .non (NetC K a o d ps (es ++ [(s, st, en)])) := by
  unfold laO
  rw [if_neg (by show ¬ isNm s = false; rw [h]; decide)]
  exact (if_neg hn).trans ((if_neg fun z => z h1).trans (if_neg fun z => z h2))
theorem not_take {α : Type} {xs : List α} (h : xs.Nodup) {i : Nat} {x : α} (hx : xs[i]? = some x) : ¬ x ∈ xs.take i := fun hm => by
  have e : xs = xs.take i ++ x :: xs.drop (i + 1) := by
    obtain ⟨hi, rfl⟩ := List.getElem?_eq_some_iff.mp hx
    rw [List.getElem_cons_drop, List.take_append_drop]
  rw [e, List.nodup_append] at h
  exact h.2.2 x hm x List.mem_cons_self rfl
theorem lnN_take (es : List Ln) (i : Nat) : lnN (es.take i) = (lnN es).take i := List.map_take
def ct_law_built (K : PySem.W.Frag) : Ct := Ct1 fun s ka out => ∃ ps es, s = .val (PtD ps es) ∧ PtOk ps es ∧ ka = [] ∧ out = fun o' k => ∃ a o d, o' = .ret (.adr a) ∧ k = NetC K a o d ps es
section
variable {P : Program} {w : World} {K : PySem.W.Frag} {mg : Str → Option Value} {base : Heap}
theorem ok_law_built (T : Tx K mg) (F_Net___init : FnE P w K mg base 4 (He.ma K (He.ga K "Net") "__init__") ["self", "order", "ends_by_lane"] [.ref (He.dflAt ("Net", some "__init__") 0 K), .non] (ct_Net___init K)) (F_Net_post : Fn P w K mg base 6 (He.ma K (He.ga K "Net") "post") ["self", "name"] (ct_Net_post K)) (F_Net_lane : Fn P w K mg base 6 (He.ma K (He.ga K "Net") "lane") ["self", "name", "start", "end"] (ct_Net_lane K)) : Fn P w K mg base 8 (He.ga K "_law_built") ["_law_parts"] (ct_law_built K) := by
  obtain ⟨fd, F⟩ := T.d_law_built
  refine fn_ok F sc_law_built (fun _ _ _ _ _ _ us hl => match us, hl with | [_], _ => rfl) ct1_len (fun cdv A outer s H E hr => ⟨_, (pss_cons (ps_set (i := 1) sc_law_built.nd rfl (by first | exact Or.inl rfl | exact Or.inr rfl) (pe_make0 T.mk_Net (F_Net___init.d.up (by decide)).ok hr rfl T.g_Net.1 (F_Net___init.d.up (by decide)).bn (F_Net___init.d.up (by decide)).dv (pass_own rfl rfl rfl rfl)))
      (pss_cons (ps_for (passes_of rfl) rfl (pi_seq (pe_ix ix_seq (pv 0) pe_int fun _ _ => rfl)) (pg_name (i := 2) sc_law_built.nd rfl (by first | exact Or.inl rfl | exact Or.inr rfl)) (pss_one (ps_expr (pe_meth (pv 1) T.cl_Net T.me_Net_post (F_Net_post.up (by decide)).ok hr (F_Net_post.up (by decide)).bn .nil (pass_own rfl rfl rfl rfl) (pa_cons (pv 2) pa_nil)))))
      (pss_cons (ps_for (passes_of rfl) rfl (pi_seq (pe_ix ix_seq (pv 0) pe_int fun _ _ => rfl)) (pg_tup rfl (pgs_cons (pg_name (i := 3) sc_law_built.nd rfl (by first | exact Or.inl rfl | exact Or.inr rfl)) (pgs_cons (pg_name (i := 4) sc_law_built.nd rfl (by first | exact Or.inl rfl | exact Or.inr rfl)) (pgs_cons (pg_name (i := 5) sc_law_built.nd rfl (by first | exact Or.inl rfl | exact Or.inr rfl)) pgs_nil)))) (pss_one (ps_expr (pe_meth (pv 1) T.cl_Net T.me_Net_lane (F_Net_lane.up (by decide)).ok hr (F_Net_lane.up (by decide)).bn .nil (pass_own rfl rfl rfl rfl) (pa_cons (pv 3) (pa_cons (pv 4) (pa_cons (pv 5) pa_nil)))))))
      (pss_one (ps_ret (pv 1)))))), fun ws ka out B F0 Q hC hR hX => ?_⟩)
  obtain ⟨s, rfl, ps, es, rfl, hok, rfl, rfl⟩ := hC
  refine q_asgR (evr_make (P := fun w k => ∃ a o d, w = .val (.adr a) ∧ k = NetC K a o d [] []) ea_nil (dv_cons (wok_t0 T.t0_Net___init) (dv_cons (w := .val .non) (fun _ _ => rfl) dv_nil)) fun a => ⟨_, ⟨_, _, _, rfl, a, true, false, [], [], rfl, rfl, .vt, Nat.zero_le _, Nat.zero_le _, List.nodup_nil, .inl ⟨rfl, rfl⟩, rfl⟩, fun o' k ⟨o, d, h1, h2⟩ => ⟨h1, a, o, d, rfl, h2⟩⟩) fun w k1 ⟨a, o, d, h1, h2⟩ => ?_
  subst h1 h2
  refine q_forn (ei_strs (ev_ixV (ev_var rfl) ev_int .vl at0)) (fun i ro ka => ∃ v, ro = [some (.val (PtD ps es)), some (.val (.adr a)), v, none, none, none] ∧ ka = NetC K a o d (ps.take i) []) ⟨none, rfl, rfl⟩ (fun i ro ka _ => trivial) (fun i w ro2 ka2 ta' hw ⟨v, e1, e2⟩ => ?_) (fun ro2 ka2 ta' ⟨v, e1, e2⟩ _ => ?_)
  · subst e1 e2
    rw [List.getElem?_map] at hw
    obtain ⟨p, hp, rfl⟩ := Option.map_eq_some_iff.mp hw
    have hm := List.mem_of_getElem? hp
    refine g_drop (ev_methA (k2 := NetC K a o d (ps.take i) []) (k3 := NetC K a o d (ps.take i ++ [p]) []) (d := .non) [] (ev_var rfl) (.c 0 rfl) rfl (ea1 (ev_var rfl)) ⟨_, _, rfl, a, o, d, ps.take i, [], .str p, rfl, rfl, nm_ok (hok.pn p hm), ?_, rfl, (po_ok (hok.pn p hm) (not_take hok.pd hp)).symm⟩) (g_jp ⟨_, rfl, ?_⟩)
    · have := hok.pl
      rw [List.length_take]
      omega
    · rw [take_succ_some hp]
      rfl
  subst e1 e2
  rw [List.length_map, List.take_length]
  refine q_forT (ei_map (ts := es) (f := rwL) (ev_ixV (ev_var rfl) ev_int .vl (atI_nat (j := 1) rfl))) (fun i ro ka => ∃ v v1 v2 v3, ro = [some (.val (PtD ps es)), some (.val (.adr a)), v, v1, v2, v3] ∧ ka = NetC K a o d ps (es.take i)) ⟨v, none, none, none, rfl, rfl⟩ (fun i ro ka _ => trivial) (fun i w ro2 ka2 ta' hw ⟨v, v1, v2, v3, e1, e2⟩ => ?_) (fun ro2 ka2 ta' ⟨v, v1, v2, v3, e1, e2⟩ _ => ?_)
  · subst e1 e2
    rw [List.getElem?_map] at hw
    obtain ⟨r, hr2, rfl⟩ := Option.map_eq_some_iff.mp hw
    have hm := List.mem_of_getElem? hr2
    refine ⟨_, at_t3, g_drop (ev_methA (k2 := NetC K a o d ps (es.take i)) (k3 := NetC K a o d ps (es.take i ++ [r])) (d := .non) [] (ev_var rfl) (.c 0 rfl) rfl (ea3 (ev_var rfl) (ev_var rfl) (ev_var rfl)) ⟨_, _, _, _, rfl, a, o, d, ps, es.take i, .str r.1, r.2.1, r.2.2, rfl, rfl, nm_ok (hok.en r hm), rfl, rfl, ?_, rfl, (la_ok (hok.en r hm) ?_ (hok.st r hm).1 (hok.st r hm).2).symm⟩) (g_jp ⟨_, _, _, _, rfl, ?_⟩)⟩
    · have := hok.el
      rw [List.length_take]
      omega
    · rw [lnN_take]
      exact not_take hok.ed (lnN_at hr2)
    · rw [take_succ_some hr2]
      rfl
  · subst e1 e2
    rw [List.length_map, List.take_length]
    exact g_ret hR (ev_var rfl) ⟨a, o, d, rfl, rfl⟩
end
def ct_law_ends (K : PySem.W.Frag) : Ct := Ct1 fun s ka out => ∃ ps es, s = .val (PtD ps es) ∧ (lnN es).Nodup ∧ es.length ≤ 50000 ∧ ka = [] ∧ out = Rt (.dic (enD es)) []
section
variable {P : Program} {w : World} {K : PySem.W.Frag} {mg : Str → Option Value} {base : Heap}
theorem ok_law_ends (T : Tx K mg) : Fn P w K mg base 4 (He.ga K "_law_ends") ["_law_parts"] (ct_law_ends K) := by
  obtain ⟨fd, F⟩ := T.d_law_ends
  refine fn_ok F sc_law_ends (fun _ _ _ _ _ _ us hl => match us, hl with | [_], _ => rfl) ct1_len (fun cdv A outer s H E hr => ⟨_, (pss_cons (ps_set (i := 1) sc_law_ends.nd rfl (by first | exact Or.inl rfl | exact Or.inr rfl) pe_dnewK)
      (pss_cons (ps_for (passes_of rfl) rfl (pi_seq (pe_ix ix_seq (pv 0) pe_int fun _ _ => rfl)) (pg_tup rfl (pgs_cons (pg_name (i := 2) sc_law_ends.nd rfl (by first | exact Or.inl rfl | exact Or.inr rfl)) (pgs_cons (pg_name (i := 3) sc_law_ends.nd rfl (by first | exact Or.inl rfl | exact Or.inr rfl)) (pgs_cons (pg_name (i := 4) sc_law_ends.nd rfl (by first | exact Or.inl rfl | exact Or.inr rfl)) pgs_nil)))) (pss_one (ps_dput (hu1 hr) (pv 1) (pv 2) (pe_tup (pa_cons (pv 3) (pa_cons (pv 4) pa_nil))) rfl)))
      (pss_one (ps_ret (pv 1))))), fun ws ka out B F0 Q hC hR hX => ?_⟩)
  obtain ⟨s, rfl, ps, es, rfl, hn, hl, rfl, rfl⟩ := hC
  refine q_asgN evn_dnew (fun a => ?_)
  refine q_forT (ei_map (ts := es) (f := rwL) (ev_ixV (ev_var rfl) ev_int .vl (atI_nat (j := 1) rfl))) (fun i ro ka => ∃ v1 v2 v3, ro = [some (.val (PtD ps es)), some (.val (.adr a)), v1, v2, v3] ∧ ka = [(a, .dic (enD (es.take i)))]) ⟨none, none, none, rfl, rfl⟩ (fun i ro ka _ => trivial) (fun i w ro2 ka2 ta' hw ⟨v1, v2, v3, e1, e2⟩ => ?_) (fun ro2 ka2 ta' ⟨v1, v2, v3, e1, e2⟩ _ => ?_)
  · subst e1 e2
    rw [List.getElem?_map] at hw
    obtain ⟨r, hr2, rfl⟩ := Option.map_eq_some_iff.mp hw
    refine ⟨_, at_t3, g_dput (j := 0) (ev_tup (ds := [.str r.2.1, .str r.2.2]) (ea2 (ev_var rfl) (ev_var rfl)) (show 2 ≤ 100000 by decide)) (ev_var rfl) (ev_var rfl) rfl ?_ (g_jp ⟨_, _, _, rfl, ?_⟩)⟩
    · rw [enD_len, List.length_take]
      omega
    · rw [← enD_take hn hr2]
      rfl
  · subst e1 e2
    rw [List.length_map, List.take_length]
    exact Gp.frzK (kr := []) (i := 1) rfl (List.Perm.refl _) (g_ret hR (ev_var rfl) ⟨rfl, rfl⟩)
end
/-! ### what a post reaches -/
inductive Rch (es : List Ln) (p : Str) : Str → Prop where
  | refl : Rch es p p
  | step {x : Str} {r : Ln} (h : Rch es p x) (m : r ∈ es) (e : r.2.1 = x) : Rch es p r.2.2
/-- the lanes ls lead from p to q -/
def Wk (es : List Ln) (p : Str) : List Str → Str → Prop
  | [], q => p = q
  | l :: ls, q => ∃ r ∈ es, r.1 = l ∧ r.2.1 = p ∧ Wk es r.2.2 ls q
theorem Wk.snoc {es : List Ln} {r : Ln} (m : r ∈ es) : ∀ {ls : List Str} {p : Str}, Wk es p ls r.2.1 → Wk es p (ls ++ [r.1]) r.2.2
  | [], p, h => ⟨r, m, rfl, (show p = r.2.1 from h).symm, rfl⟩
  | l :: ls, p, ⟨r', m', e1, e2, h⟩ => ⟨r', m', e1, e2, Wk.snoc m h⟩
theorem Wk.rch {es : List Ln} {s : Str} : ∀ {ls : List Str} {p q : Str}, Rch es s p → Wk es p ls q → Rch es s q
  | [], p, q, a, h => (show p = q from h) ▸ a
  | l :: ls, p, q, a, ⟨r, m, _, e2, h⟩ => Wk.rch (Rch.step (x := p) a m e2) h
/-- the way that wy has to p -/
def lsOf (wy : List (Str × List Str)) (p : Str) : List Str := ((wy.find? fun e => decide (e.1 = p)).map (·.2)).getD []
/-- one lane looked at from cur -/
def wStp (cur : Str) (wy : List (Str × List Str)) (r : Ln) : List (Str × List Str) := if r.2.1 = cur ∧ ¬ r.2.2 ∈ keysT wy then wy ++ [(r.2.2, lsOf wy cur ++ [r.1])] else wy
/-- the search: n posts may still be looked at, the next one is the a-th, its first j lanes are done -/
def bfsJ (es : List Ln) : Nat → Nat → Nat → List (Str × List Str) → List (Str × List Str)
  | 0, _, _, wy => wy
  | n + 1, a, j, wy => match (keysT wy)[a]? with
    | some cur => bfsJ es n (a + 1) 0 ((es.drop j).foldl (wStp cur) wy)
    | none => wy
def wyAll (ps : List Str) (es : List Ln) (s : Str) : List (Str × List Str) := bfsJ es ps.length 0 0 [(s, [])]
theorem lsOf_of {wy : List (Str × List Str)} (hn : (keysT wy).Nodup) {p : Str} {ls : List Str} (h : (p, ls) ∈ wy) : lsOf wy p = ls := by
  unfold lsOf
  induction wy with
  | nil => cases h
  | cons x l ih =>
    have hn2 := List.nodup_cons.mp hn
    rw [List.find?_cons]
    rcases List.mem_cons.mp h with e | h
    · rw [← e, decide_eq_true rfl]
      rfl
    · have ne : ¬ x.1 = p := fun z => hn2.1 (by show x.1 ∈ _; rw [z]; exact List.mem_map.mpr ⟨_, h, rfl⟩)
      rw [decide_eq_false ne]
      exact ih hn2.2 h
theorem bfsJ_skip {es : List Ln} {n a j : Nat} {wy : List (Str × List Str)} {r : Ln} (hr : es[j]? = some r) (h : ∀ cur, (keysT wy)[a]? = some cur → wStp cur wy r = wy) : bfsJ es n a (j + 1) wy = bfsJ es n a j wy := by
  cases n with
  | zero => rfl
  | succ n =>
    unfold bfsJ
    cases hc : (keysT wy)[a]? with
    | none => rfl
    | some cur =>
      have e : es.drop j = r :: es.drop (j + 1) := by
        obtain ⟨hj, rfl⟩ := List.getElem?_eq_some_iff.mp hr
        rw [List.getElem_cons_drop]
      dsimp only
      rw [e, List.foldl_cons, h cur hc]
theorem bfsJ_add {es : List Ln} {n a j : Nat} {wy : List (Str × List Str)} {r : Ln} {cur : Str} (hr : es[j]? = some r) (hc : (keysT wy)[a]? = some cur) (h1 : r.2.1 = cur) (h2 : ¬ r.2.2 ∈ keysT wy) : bfsJ es n a (j + 1) (wy ++ [(r.2.2, lsOf wy cur ++ [r.1])]) = bfsJ es n a j wy ∨ n = 0 := by
  cases n with
  | zero => exact .inr rfl
  | succ n =>
    refine .inl ?_
    have e : es.drop j = r :: es.drop (j + 1) := by
      obtain ⟨hj, rfl⟩ := List.getElem?_eq_some_iff.mp hr
      rw [List.getElem_cons_drop]
    have hlt := (List.getElem?_eq_some_iff.mp hc).1
    have hc2 : (keysT (wy ++ [(r.2.2, lsOf wy cur ++ [r.1])]))[a]? = some cur := by
      rw [keys_app, List.getElem?_append_left hlt]
      exact hc
    unfold bfsJ
    rw [hc, hc2]
    dsimp only
    rw [e, List.foldl_cons]
    have : wStp cur wy r = wy ++ [(r.2.2, lsOf wy cur ++ [r.1])] := if_pos ⟨h1, h2⟩
    rw [this]
theorem bfsJ_next {es : List Ln} {n a : Nat} {wy : List (Str × List Str)} {cur : Str} (hc : (keysT wy)[a]? = some cur) : bfsJ es (n + 1) a es.length wy = bfsJ es n (a + 1) 0 wy := by
  rw [bfsJ, hc]
  dsimp only
  rw [List.drop_length]
  rfl
theorem bfsJ_end {es : List Ln} {n a j : Nat} {wy : List (Str × List Str)} (hc : (keysT wy)[a]? = none) : bfsJ es n a j wy = wy := by
  cases n with
  | zero => rfl
  | succ n => rw [bfsJ, hc]
def wyD (wy : List (Str × List Str)) : List (Key × D) := tbD (fun ls => .lst (stD ls)) wy
/-- wy: of each post that s reaches a walk from s to it -/
structure WyOk (ps : List Str) (es : List Ln) (s : Str) (wy : List (Str × List Str)) : Prop where
  eq : wy = wyAll ps es s
  nd : (keysT wy).Nodup
  wk : ∀ p ls, (p, ls) ∈ wy → Wk es s ls p ∧ ls.length ≤ wy.length
  all : ∀ p, p ∈ keysT wy ↔ Rch es s p
/-- on the way: the first at ones are done, of the next one the first j lanes -/
structure WyIn (ps : List Str) (es : List Ln) (s : Str) (at' j : Nat) (wy : List (Str × List Str)) : Prop where
  nd : (keysT wy).Nodup
  sub : ∀ p ∈ keysT wy, p ∈ ps
  st : s ∈ keysT wy
  wk : ∀ p ls, (p, ls) ∈ wy → Wk es s ls p ∧ ls.length ≤ wy.length
  le : at' ≤ wy.length
  done : ∀ i, i < at' → ∀ p, (keysT wy)[i]? = some p → ∀ r ∈ es, r.2.1 = p → r.2.2 ∈ keysT wy
  cur : ∀ p, (keysT wy)[at']? = some p → ∀ i r, i < j → es[i]? = some r → r.2.1 = p → r.2.2 ∈ keysT wy
  run : bfsJ es (ps.length - at') at' j wy = wyAll ps es s
theorem sub_len : ∀ {xs ys : List Str}, xs.Nodup → (∀ x ∈ xs, x ∈ ys) → xs.length ≤ ys.length
  | [], _, _, _ => Nat.zero_le _
  | x :: xs, ys, h, s => by
    have h2 := List.nodup_cons.mp h
    have hx := s x List.mem_cons_self
    have := sub_len (xs := xs) (ys := ys.erase x) h2.2 fun y hy => (List.mem_erase_of_ne (fun z : y = x => h2.1 (by rw [← z]; exact hy))).mpr (s y (List.mem_cons_of_mem _ hy))
    rw [List.length_erase_of_mem hx] at this
    have : 0 < ys.length := List.length_pos_of_mem hx
    rw [List.length_cons]
    omega
theorem WyIn.len {ps : List Str} {es : List Ln} {s : Str} {a j : Nat} {wy : List (Str × List Str)} (h : WyIn ps es s a j wy) : wy.length ≤ ps.length := by
  have := sub_len h.nd h.sub
  rwa [List.length_map] at this
/-- a lane that leads to a post there already, or that starts elsewhere -/
theorem WyIn.skip {ps : List Str} {es : List Ln} {s : Str} {a j : Nat} {wy : List (Str × List Str)} (h : WyIn ps es s a j wy) {r : Ln} (hr : es[j]? = some r) (c : ∀ p, (keysT wy)[a]? = some p → r.2.1 = p → r.2.2 ∈ keysT wy) : WyIn ps es s a (j + 1) wy :=
  ⟨h.nd, h.sub, h.st, h.wk, h.le, h.done, fun p hp i r' hi hr' e => by
    by_cases q : i = j
    · subst q
      rw [hr] at hr'
      cases hr'
      exact c p hp e
    · exact h.cur p hp i r' (by omega) hr' e, (bfsJ_skip hr fun cur hc => if_neg fun z => z.2 (c cur hc z.1)).trans h.run⟩
/-- a lane that leads to a new post -/
theorem WyIn.add {ps : List Str} {es : List Ln} {s : Str} {a j : Nat} {wy : List (Str × List Str)} (h : WyIn ps es s a j wy) {r : Ln} (hr : es[j]? = some r) {ls : List Str} (hf : (r.2.1, ls) ∈ wy) (hcu : (keysT wy)[a]? = some r.2.1) (hn : ¬ r.2.2 ∈ keysT wy) (hp : r.2.2 ∈ ps) (hl : a < wy.length) : WyIn ps es s a (j + 1) (wy ++ [(r.2.2, ls ++ [r.1])]) := by
  have m := List.mem_of_getElem? hr
  have hk : keysT (wy ++ [(r.2.2, ls ++ [r.1])]) = keysT wy ++ [r.2.2] := keys_app _ _
  have up : ∀ {x}, x ∈ keysT wy → x ∈ keysT (wy ++ [(r.2.2, ls ++ [r.1])]) := fun hx => by rw [hk]; exact List.mem_append_left _ hx
  refine ⟨?_, fun p q => ?_, up h.st, fun p ms q => ?_, ?_, fun i hi p e r' m' e' => ?_, fun p e i r' hi hr' e' => ?_, ?_⟩
  · rw [hk, List.nodup_append]
    refine ⟨h.nd, List.nodup_cons.mpr ⟨List.not_mem_nil, List.nodup_nil⟩, fun x hx y hy z => hn ?_⟩
    rw [List.mem_singleton.mp hy] at z
    rw [← z]; exact hx
  · rw [hk] at q
    rcases List.mem_append.mp q with q | q
    · exact h.sub p q
    · rw [List.mem_singleton.mp q]; exact hp
  · rw [List.length_append, List.length_singleton]
    rcases List.mem_append.mp q with q | q
    · have := h.wk p ms q
      exact ⟨this.1, by omega⟩
    · have q' := List.mem_singleton.mp q
      cases q'
      have := h.wk _ _ hf
      exact ⟨this.1.snoc m, by rw [List.length_append, List.length_singleton]; omega⟩
  · rw [List.length_append]; have := h.le; omega
  · rw [hk, List.getElem?_append_left (by rw [List.length_map]; have := h.le; omega)] at e
    exact up (h.done i hi p e r' m' e')
  · rw [hk, List.getElem?_append_left (by rw [List.length_map]; exact hl)] at e
    by_cases q : i = j
    · subst q
      rw [hr] at hr'
      cases hr'
      rw [hk]
      exact List.mem_append_right _ (List.mem_singleton.mpr rfl)
    · exact up (h.cur p e i r' (by omega) hr' e')
  · have hw := h.len
    have hr3 := bfsJ_add (n := ps.length - a) hr hcu rfl hn
    rw [lsOf_of h.nd hf] at hr3
    exact (hr3.resolve_right (by omega)).trans h.run
theorem WyIn.next {ps : List Str} {es : List Ln} {s : Str} {a : Nat} {wy : List (Str × List Str)} (h : WyIn ps es s a es.length wy) (hl : a < wy.length) : WyIn ps es s (a + 1) 0 wy :=
  ⟨h.nd, h.sub, h.st, h.wk, hl, fun i hi p e r m e' => by
    by_cases q : i = a
    · subst q
      obtain ⟨k, hk, rfl⟩ := List.mem_iff_getElem.mp m
      exact h.cur p e k _ hk (List.getElem?_eq_getElem hk) e'
    · exact h.done i (by omega) p e r m e', fun _ _ _ _ z => absurd z (Nat.not_lt_zero _), by
    have hw := h.len
    have e1 : ps.length - a = ps.length - (a + 1) + 1 := by omega
    have h2 := h.run
    rw [e1, bfsJ_next (List.getElem?_eq_getElem (by rw [List.length_map]; exact hl))] at h2
    exact h2⟩
theorem WyIn.fin {ps : List Str} {es : List Ln} {s : Str} {j : Nat} {wy : List (Str × List Str)} (h : WyIn ps es s wy.length j wy) : WyOk ps es s wy := by
  refine ⟨(bfsJ_end (List.getElem?_eq_none (by rw [List.length_map]; exact Nat.le_refl _))).symm.trans h.run, h.nd, h.wk, fun p => ⟨fun q => ?_, fun q => ?_⟩⟩
  · obtain ⟨ls, hv⟩ := key_has q
    exact (h.wk _ _ hv).1.rch .refl
  · induction q with
    | refl => exact h.st
    | @step x r _ m e ih =>
      obtain ⟨i, hi⟩ := List.mem_iff_getElem?.mp ih
      have hlt := (List.getElem?_eq_some_iff.mp hi).1
      rw [List.length_map] at hlt
      exact h.done i hlt x hi r m e
theorem WyIn.ini {ps : List Str} {es : List Ln} {s : Str} (h : s ∈ ps) : WyIn ps es s 0 0 [(s, [])] := by
  refine ⟨List.nodup_cons.mpr ⟨List.not_mem_nil, List.nodup_nil⟩, fun p q => ?_, List.mem_singleton.mpr rfl, fun p ls q => ?_, Nat.zero_le _, fun i hi => absurd hi (Nat.not_lt_zero _), fun _ _ _ _ z => absurd z (Nat.not_lt_zero _), rfl⟩
  · rw [List.mem_singleton.mp q]; exact h
  · cases List.mem_singleton.mp q
    exact ⟨rfl, Nat.zero_le _⟩
def ct_law_ways (K : PySem.W.Frag) : Ct := Ct2 fun a b ka out => ∃ ps es s, a = .val (PtD ps es) ∧ b = .val (.str s) ∧ s ∈ ps ∧ (∀ r ∈ es, r.2.2 ∈ ps) ∧ ps.length ≤ 1000 ∧ es.length ≤ 50000 ∧ ka = [] ∧ out = fun o k => ∃ wy, o = .ret (.dic (wyD wy)) ∧ k = [] ∧ WyOk ps es s wy
section
variable {P : Program} {w : World} {K : PySem.W.Frag} {mg : Str → Option Value} {base : Heap}
theorem ok_law_ways (T : Tx K mg) : Fn P w K mg base 4 (He.ga K "_law_ways") ["_law_parts", "_law_start"] (ct_law_ways K) := by
  obtain ⟨fd, F⟩ := T.d_law_ways
  refine fn_ok F sc_law_ways (fun _ _ _ _ _ _ us hl => match us, hl with | [_, _], _ => rfl) ct2_len (fun cdv A outer s H E hr => ⟨_, (pss_cons (ps_set (i := 2) sc_law_ways.nd rfl (by first | exact Or.inl rfl | exact Or.inr rfl) (pe_disp (pps_cons (pv 1) (pe_lst pa_nil) pps_nil) rfl rfl (by simp) (by decide)))
      (pss_cons (ps_set (i := 3) sc_law_ways.nd rfl (by first | exact Or.inl rfl | exact Or.inr rfl) (pe_lst (pa_cons (pv 1) pa_nil)))
      (pss_cons (ps_set (i := 4) sc_law_ways.nd rfl (by first | exact Or.inl rfl | exact Or.inr rfl) pe_int)
      (pss_cons (ps_while (passes_of rfl) (pt_cmpR op_lt (pv 4) (pe_callB call_lenU rfl T.n_len (by decide +kernel) (pa_cons (pv 3) pa_nil)) (nomark _)) (pss_cons (ps_for (passes_of rfl) rfl (pi_seq (pe_ix ix_seq (pv 0) pe_int fun _ _ => rfl)) (pg_tup rfl (pgs_cons (pg_name (i := 5) sc_law_ways.nd rfl (by first | exact Or.inl rfl | exact Or.inr rfl)) (pgs_cons (pg_name (i := 6) sc_law_ways.nd rfl (by first | exact Or.inl rfl | exact Or.inr rfl)) (pgs_cons (pg_name (i := 7) sc_law_ways.nd rfl (by first | exact Or.inl rfl | exact Or.inr rfl)) pgs_nil)))) (pss_one (ps_if (PW.pt (pw_and (pt_cmpR (op_eqP (by have := (hr).units; exact this)) (pv 6) (pe_ix ix_seq (pv 3) (pv 4) fun _ _ => rfl) (nomark _)) (pw_and1 (pt_cmp (pc_dnotin (hu1 hr) (pv 7) (pv 2)) (by with_unfolding_all rfl)))))
      (pss_cons (ps_dput (hu1 hr) (pv 2) (pv 7) (pe_op op_addU (pe_dget (hu1 hr) (pv 2) (pv 6) fun _ _ => rfl) (pe_lst (pa_cons (pv 5) pa_nil))) rfl)
      (pss_one (ps_expr (pe_bm PySem.F.plainAttrs_list PySem.F.slot_list_append PySem.F.type_list_append mt_append (pv 3) (pa_cons (pv 7) pa_nil)))))
      pss_nil)))
      (pss_one (ps_set (i := 4) sc_law_ways.nd rfl (by first | exact Or.inl rfl | exact Or.inr rfl) (pe_op op_addU (pv 4) pe_int)))))
      (pss_one (ps_ret (pv 2))))))), fun ws ka out B F0 Q hC hR hX => ?_⟩)
  obtain ⟨a, b, rfl, ps, es, s, rfl, rfl, hs, hps, hl, hel, rfl, rfl⟩ := hC
  refine q_asgN (evn_disp1 (d := .lst []) (ev_var rfl) (evn_lst (ds := []) ea_nil (show 0 ≤ 100000 by decide)).lst) (fun a => ?_)
  refine q_asgN (evn_lst (ds := [.str s]) (ea1 (ev_var rfl)) (show 1 ≤ 100000 by decide)) (fun b => ?_)
  refine q_asg ev_int ?_
  refine q_while (fun m ro ka => ∃ (wy : List (Str × List Str)) (n : Nat) (v1 v2 v3 : Option W), ro = [some (.val (PtD ps es)), some (.val (.str s)), some (.val (.adr a)), some (.val (.adr b)), some (.val (.int n)), v1, v2, v3] ∧ ka = [(a, .dic (wyD wy)), (b, .lst (stD (keysT wy)))] ∧ WyIn ps es s n 0 wy ∧ m = ps.length - n)
    ps.length ⟨[(s, [])], 0, none, none, none, rfl, rfl, .ini hs, rfl⟩ (fun m ro2 ka2 ⟨wy, n, v1, v2, v3, e1, e2, hw, hm⟩ => ?_)
  subst e1 e2
  refine ⟨_, _, et_test (ev_lt (ev_var rfl) (ev_len (ev_var rfl) (.ce 1 rfl))), fun hb => ?_, fun hb => ?_⟩
  · rw [decide_eq_true_eq, stD_len, List.length_map] at hb
    have hlt : n < wy.length := by omega
    obtain ⟨cur, hcur⟩ : ∃ c, (keysT wy)[n]? = some c := ⟨_, List.getElem?_eq_getElem (by rw [List.length_map]; exact hlt)⟩
    refine q_forT (ei_map (ts := es) (f := rwL) (ev_ixV (ev_var rfl) ev_int .vl (atI_nat (j := 1) rfl))) (fun i ro ka => ∃ wy v1 v2 v3, ro = [some (.val (PtD ps es)), some (.val (.str s)), some (.val (.adr a)), some (.val (.adr b)), some (.val (.int n)), v1, v2, v3] ∧ ka = [(a, .dic (wyD wy)), (b, .lst (stD (keysT wy)))] ∧ WyIn ps es s n i wy ∧ n < wy.length ∧ (keysT wy)[n]? = some cur)
      ⟨wy, v1, v2, v3, rfl, rfl, hw, hlt, hcur⟩ (fun i ro ka _ => trivial) (fun i w ro2 ka2 ta' hw2 ⟨wy, v1, v2, v3, e1, e2, hw, hlt, hcur⟩ => ?_) (fun ro2 ka2 ta' ⟨wy, v1, v2, v3, e1, e2, hw, hlt, hcur⟩ hsub => ?_)
    · subst e1 e2
      rw [List.getElem?_map] at hw2
      obtain ⟨r, hr2, rfl⟩ := Option.map_eq_some_iff.mp hw2
      have hm2 := List.mem_of_getElem? hr2
      refine ⟨_, at_t3, g_if (et_and (et_test (ev_eqS (ev_var rfl) (ev_ixV (ev_var rfl) (ev_var rfl) (.ce 1 rfl) (atI_nat (stD_get hcur))))) fun _ => et_B ((ev_dni (ev_var rfl) (ev_var rfl) (.ce 0 rfl)).to (by rw [show wyD wy = tbD _ wy from rfl, tb_in]))) (fun hb => ?_) (fun hb => g_next (g_jp ⟨wy, _, _, _, rfl, rfl, hw.skip hr2 fun p hp e => ?_, hlt, hcur⟩))⟩
      · rw [Bool.and_eq_true, beq_iff_eq, Bool.not_eq_true', decide_eq_false_iff_not] at hb
        obtain ⟨h1, h2⟩ := hb
        have hm3 : r.2.1 ∈ keysT wy := by rw [h1]; exact List.mem_of_getElem? hcur
        obtain ⟨ls, hls⟩ := key_has hm3
        have hb2 : wy.length < 1001 := by have := hw.len; omega
        have hll := (hw.wk _ _ hls).2
        refine q_dput (j := 0) (d := .lst (stD (ls ++ [r.1]))) ((evn_op (ev_dgetV (d := .lst (stD ls)) (ev_var rfl) (ev_var rfl) (.ce 0 rfl) (tb_get hw.nd hls)) (evn_lst (ds := [.str r.1]) (ea1 (ev_var rfl)) (show 1 ≤ 100000 by decide)).lst (rvn_cat (b1 := false) (b2 := false) .vl .vl (by rw [stD_len, List.length_singleton]; omega))).lst.to (congrArg (fun z => W.val (.lst z)) (stD_app ls [r.1]))) (ev_var rfl) (ev_var rfl) rfl (by rw [show wyD wy = tbD _ wy from rfl, tbD_len]; omega) ?_
        refine g_app (j0 := 1) (j := 1) (d := .str r.2.2) (ev_var rfl) rfl (ev_var rfl) rfl (by rw [stD_len, List.length_map]; omega) (g_jp ⟨wy ++ [(r.2.2, ls ++ [r.1])], _, _, _, rfl, ?_, hw.add hr2 hls (h1 ▸ hcur) h2 (hps r hm2) hlt, by rw [List.length_append]; omega, ?_⟩)
        · have e5 : putT (wyD wy) (.inr r.2.2) (.lst (stD (ls ++ [r.1]))) = wyD (wy ++ [(r.2.2, ls ++ [r.1])]) := tb_put (f := fun ls => .lst (stD ls)) h2
          have e6 : stD (keysT (wy ++ [(r.2.2, ls ++ [r.1])])) = stD (keysT wy) ++ [.str r.2.2] := by rw [keys_app, ← stD_app]; rfl
          rw [e6, ← e5]
          rfl
        · rw [keys_app, List.getElem?_append_left (by rw [List.length_map]; exact hlt)]
          exact hcur
      · rw [hcur] at hp
        cases hp
        rw [Bool.and_eq_false_iff, beq_eq_false_iff_ne, Bool.not_eq_false', decide_eq_true_eq] at hb
        rcases hb with hb | hb
        · exact absurd e hb
        · exact hb
    · subst e1 e2
      rw [List.length_map] at hw
      have hb2 : wy.length ≤ ps.length := hw.len
      exact g_asg (ev_addI (ev_var rfl) ev_int) (g_jpH hsub ⟨ps.length - (n + 1), by omega, wy, n + 1, _, _, _, rfl, rfl, hw.next hlt, rfl⟩)
  · rw [decide_eq_false_iff_not, stD_len, List.length_map] at hb
    have hle := hw.le
    have hn : n = wy.length := by omega
    subst hn
    exact Gp.frzK (kr := [(b, .lst (stD (keysT wy)))]) (i := 2) rfl (List.Perm.swap _ _ _) (Gp.less (k1 := []) (g_ret hR (ev_var rfl) ⟨wy, rfl, rfl, hw.fin⟩) (List.nil_sublist _))
end
open Classical in
/-- the posts that s reaches, in order -/
noncomputable def rchL (ps : List Str) (es : List Ln) (s : Str) : List Str := ps.filter fun p => decide (Rch es s p)
def fdD (fs : List Str) : List (Key × D) := tbD D.bl (fs.map fun s => (s, true))
theorem fd_keys (fs : List Str) : keysT (fs.map fun s => (s, true)) = fs := by
  unfold keysT
  rw [List.map_map]
  exact List.map_id _
theorem fd_in (fs : List Str) (s : Str) : (getT (fdD fs) (.inr s)).isSome = decide (s ∈ fs) := by
  have := tb_in (f := D.bl) (fs.map fun s => (s, true)) s
  rw [fd_keys] at this
  exact this
theorem fd_put {fs : List Str} {s : Str} (h : ¬ s ∈ fs) : putT (fdD fs) (.inr s) (.bl true) = fdD (fs ++ [s]) := by
  have := tb_put (f := D.bl) (xs := fs.map fun s => (s, true)) (s := s) (v := true) (by rw [fd_keys]; exact h)
  unfold fdD
  rw [this, List.map_append]
  rfl
theorem fd_len (fs : List Str) : (fdD fs).length = fs.length := by
  unfold fdD
  rw [tbD_len, List.length_map]
structure FdOk (ps : List Str) (es : List Ln) (s : Str) (fs : List Str) : Prop where
  nd : fs.Nodup
  sub : ∀ p ∈ fs, p ∈ ps
  st : s ∈ fs
  rc : ∀ p ∈ fs, Rch es s p
theorem FdOk.add {ps : List Str} {es : List Ln} {s : Str} {fs : List Str} (h : FdOk ps es s fs) {r : Ln} (m : r ∈ es) (h1 : r.2.1 ∈ fs) (h2 : ¬ r.2.2 ∈ fs) (hp : r.2.2 ∈ ps) : FdOk ps es s (fs ++ [r.2.2]) := by
  refine ⟨?_, fun p q => ?_, List.mem_append_left _ h.st, fun p q => ?_⟩
  · rw [List.nodup_append]
    refine ⟨h.nd, List.nodup_cons.mpr ⟨List.not_mem_nil, List.nodup_nil⟩, fun x hx y hy z => h2 ?_⟩
    rw [List.mem_singleton.mp hy] at z
    rw [← z]; exact hx
  · rcases List.mem_append.mp q with q | q
    · exact h.sub p q
    · rw [List.mem_singleton.mp q]; exact hp
  · rcases List.mem_append.mp q with q | q
    · exact h.rc p q
    · rw [List.mem_singleton.mp q]; exact .step (h.rc _ h1) m rfl
theorem FdOk.fin {ps : List Str} {es : List Ln} {s : Str} {fs : List Str} (h : FdOk ps es s fs) (c : ∀ r ∈ es, r.2.1 ∈ fs → r.2.2 ∈ fs) : ps.filter (fun p => decide (p ∈ fs)) = rchL ps es s := by
  unfold rchL
  refine List.filter_congr fun p hp => ?_
  clear hp
  refine decide_eq_decide.mpr ⟨h.rc p, fun q => ?_⟩
  induction q with
  | refl => exact h.st
  | step _ m e ih => exact c _ m (by rw [e]; exact ih)
def ct_reached_posts (K : PySem.W.Frag) : Ct := Ct2 fun a b ka out => ∃ ps es s, a = .val (NetD K ps es) ∧ b = .val (.str s) ∧ s ∈ ps ∧ (∀ r ∈ es, r.2.2 ∈ ps) ∧ (lnN es).Nodup ∧ ps.length ≤ 1000 ∧ es.length ≤ 50000 ∧ ka = [] ∧ out = Rt (.tup (stD (rchL ps es s))) []
section
variable {P : Program} {w : World} {K : PySem.W.Frag} {mg : Str → Option Value} {base : Heap}
theorem ok_reached_posts (T : Tx K mg) : Fn P w K mg base 4 (He.ga K "reached_posts") ["net", "start"] (ct_reached_posts K) := by
  obtain ⟨fd, F⟩ := T.d_reached_posts
  refine fn_ok F sc_reached_posts (fun _ _ _ _ _ _ us hl => match us, hl with | [_, _], _ => rfl) ct2_len (fun cdv A outer s H E hr => ⟨_, (pss_cons (ps_set (i := 2) sc_reached_posts.nd rfl (by first | exact Or.inl rfl | exact Or.inr rfl) (pe_disp (pps_cons (pv 1) pe_bl pps_nil) rfl rfl (by simp) (by decide)))
      (pss_cons (ps_set (i := 3) sc_reached_posts.nd rfl (by first | exact Or.inl rfl | exact Or.inr rfl) pe_bl)
      (pss_cons (ps_while (passes_of rfl) (pt_val (pv 3)) (pss_cons (ps_set (i := 3) sc_reached_posts.nd rfl (by first | exact Or.inl rfl | exact Or.inr rfl) pe_bl)
      (pss_one (ps_lkS (ps_for (passes_of rfl) rfl (pi_keys (pe_fld (pv 0) rfl)) (pg_name (i := 4) sc_reached_posts.nd rfl (by first | exact Or.inl rfl | exact Or.inr rfl)) (pss_cons (ps_asg (pe_dget (hu1 hr) (pe_fld (pv 0) rfl) (pv 4) fun _ _ => rfl) (pg_tup rfl (pgs_cons (pg_name (i := 5) sc_reached_posts.nd rfl (by first | exact Or.inl rfl | exact Or.inr rfl)) (pgs_cons (pg_name (i := 6) sc_reached_posts.nd rfl (by first | exact Or.inl rfl | exact Or.inr rfl)) pgs_nil))))
      (pss_one (ps_if (PW.pt (pw_and (pt_cmp (pc_din (hu1 hr) (pv 5) (pv 2)) (by with_unfolding_all rfl)) (pw_and1 (pt_cmp (pc_dnotin (hu1 hr) (pv 6) (pv 2)) (by with_unfolding_all rfl)))))
      (pss_cons (ps_dput (hu1 hr) (pv 2) (pv 6) pe_bl rfl)
      (pss_one (ps_set (i := 3) sc_reached_posts.nd rfl (by first | exact Or.inl rfl | exact Or.inr rfl) pe_bl)))
      pss_nil))))))))
      (pss_one (ps_ret (pe_callTy call_tupU rfl T.n_tuple (by decide +kernel) (pa_cons (pe_lc (te := (tVar 7)) (tt := (tB (tDIn (tVar 7) (tVar 2)))) (own := [("post", 7)]) rfl sc_reached_posts.nd (pi_seq (pe_fld (pv 0) rfl)) (blk_ok ["net", "start", "found", "going", "lane", "first", "second", "post"] (defScope s_reached_posts) rfl rfl (by decide +kernel)) (fun _ _ _ _ _ => (pg_name (i := 7) sc_reached_posts.nd rfl (by first | exact Or.inl rfl | exact Or.inr rfl))) (fun _ _ _ _ _ => (pts_one (pt_cmp (pc_din (hu1 hr) (pv 7) (pv 2)) (by with_unfolding_all rfl)))) (fun _ _ _ _ _ => (pv 7))) pa_nil))))))), fun ws ka out B F0 Q hC hR hX => ?_⟩)
  obtain ⟨a, b, rfl, ps, es, s, rfl, rfl, hs, hps, hn, hl, hel, rfl, rfl⟩ := hC
  have fe : ∀ {ro : Ro} {ka : Cells}, ro[0]? = some (some (.val (NetD K ps es))) → EvD K (tFld K (tVar 0) "ends_by_lane") ro ka (.val (.dic (enD es))) ka := fun h => ev_fld (ev_var h) .v T.cl_Net T.na_Net_ends_by_lane rfl
  refine q_asgN (evn_disp1 (d := .bl true) (ev_var rfl) ev_bl) (fun a => ?_)
  refine q_asg ev_bl ?_
  refine q_while (fun m ro ka => ∃ (fs : List Str) (g : Bool) (v1 v2 v3 : Option W), ro = [some (.val (NetD K ps es)), some (.val (.str s)), some (.val (.adr a)), some (.val (.bl g)), v1, v2, v3, none] ∧ ka = [(a, .dic (fdD fs))] ∧ FdOk ps es s fs ∧ (g = false → ∀ r ∈ es, r.2.1 ∈ fs → r.2.2 ∈ fs) ∧ m = 2 * (ps.length - fs.length) + (if g = true then 1 else 0))
    _ ⟨[s], true, none, none, none, rfl, rfl, ⟨List.nodup_cons.mpr ⟨List.not_mem_nil, List.nodup_nil⟩, fun p q => by rw [List.mem_singleton.mp q]; exact hs, List.mem_singleton.mpr rfl, fun p q => by rw [List.mem_singleton.mp q]; exact .refl⟩, fun z => (by cases z), rfl⟩ (fun m ro2 ka2 ⟨fs, g, v1, v2, v3, e1, e2, hf, hc, hm⟩ => ?_)
  subst e1 e2
  refine ⟨_, _, et_B (ev_var rfl), fun hb => ?_, fun hb => ?_⟩
  · subst hb
    rw [if_pos rfl] at hm
    refine q_asg ev_bl ?_
    refine g_forK (evp_fld (evp_var rfl) T.cl_Net T.na_Net_ends_by_lane rfl) (fun i ro ka => ∃ (fs' : List Str) (g : Bool) (v1 v2 v3 : Option W), ro = [some (.val (NetD K ps es)), some (.val (.str s)), some (.val (.adr a)), some (.val (.bl g)), v1, v2, v3, none] ∧ ka = [(a, .dic (fdD fs'))] ∧ FdOk ps es s fs' ∧ ((g = false ∧ fs' = fs ∧ ∀ j r, j < i → es[j]? = some r → r.2.1 ∈ fs → r.2.2 ∈ fs) ∨ (g = true ∧ fs.length < fs'.length))) (fun _ _ => False)
      ⟨fs, false, v1, v2, v3, rfl, rfl, hf, .inl ⟨rfl, rfl, fun j r z => absurd z (Nat.not_lt_zero _)⟩⟩ (fun B' F1 rt' bk' ta' hrt hbk i kv ro2 ka2 hkv ⟨fs', g, v1, v2, v3, e1, e2, hf', hd⟩ => ?_) (fun ro2 ka2 h => ?_)
    · subst e1 e2
      obtain ⟨r, hr2, rfl⟩ := enD_at hkv
      have hmr := List.mem_of_getElem? hr2
      refine ⟨_, at_n, q_asgT (ev_dgetV (d := lnD r) (fe rfl) (ev_var rfl) .v (enD_get hn hr2)) at_t2 ?_⟩
      refine g_if (et_and (et_B ((ev_din (ev_var rfl) (ev_var rfl) (.ce 0 rfl)).to (by rw [fd_in]))) fun _ => et_B ((ev_dni (ev_var rfl) (ev_var rfl) (.ce 0 rfl)).to (by rw [fd_in]))) (fun hb => ?_) (fun hb => g_next (g_jp ⟨fs', g, _, _, _, rfl, rfl, hf', ?_⟩))
      · rw [Bool.and_eq_true, decide_eq_true_eq, Bool.not_eq_true', decide_eq_false_iff_not] at hb
        have hbig := sub_len hf'.nd hf'.sub
        refine q_dput (j := 0) (d := .bl true) ev_bl (ev_var rfl) (ev_var rfl) rfl (by rw [fd_len]; omega) ?_
        refine g_asg ev_bl (g_jp ⟨fs' ++ [r.2.2], true, _, _, _, rfl, ?_, hf'.add hmr hb.1 hb.2 (hps r hmr), .inr ⟨rfl, ?_⟩⟩)
        · rw [← fd_put hb.2]
          rfl
        · rw [List.length_append, List.length_singleton]
          rcases hd with ⟨_, e, _⟩ | ⟨_, e⟩
          · rw [e]; omega
          · omega
      · rcases hd with ⟨e1, e2, h3⟩ | h3
        · subst e2
          refine .inl ⟨e1, rfl, fun j r' hj hr' hin => ?_⟩
          by_cases q : j = i
          · subst q
            rw [hr2] at hr'
            cases hr'
            rw [Bool.and_eq_false_iff, decide_eq_false_iff_not, Bool.not_eq_false', decide_eq_true_eq] at hb
            exact hb.resolve_left fun z => z hin
          · exact h3 j r' (by omega) hr' hin
        · exact .inr h3
    · rcases h with ⟨fs', g, v1, v2, v3, e1, e2, hf', hd⟩ | h
      · subst e1 e2
        have hbig := sub_len hf'.nd hf'.sub
        refine g_jp ⟨2 * (ps.length - fs'.length) + (if g = true then 1 else 0), ?_, fs', g, v1, v2, v3, rfl, rfl, hf', fun hg r hr hin => ?_, rfl⟩
        · rcases hd with ⟨e1, e2, h3⟩ | ⟨e1, h3⟩
          · subst e1 e2
            rw [if_neg Bool.false_ne_true]; omega
          · subst e1
            rw [if_pos rfl]; omega
        · rcases hd with ⟨e1, e2, h3⟩ | ⟨e1, h3⟩
          · subst e2
            obtain ⟨k, hk, rfl⟩ := List.mem_iff_getElem.mp hr
            exact h3 k _ (by rw [enD_len]; exact hk) (List.getElem?_eq_getElem hk) hin
          · rw [hg] at e1; cases e1
      · exact h.elim
  · subst hb
    refine g_ret hR ((ev_cb (ea1 (evn_filt (xs := ps) (g := fun s => W.val (.str s)) (f := fun s => D.str s) (p := fun s => decide (s ∈ fs)) (ei_strs (ev_fld (ev_var rfl) .v T.cl_Net T.na_Net_order rfl)) (by decide) (by omega) ⟨trivial, fun _ => trivial⟩ (fun s hs => et_B ((ev_din (ev_var rfl) (ev_var rfl) (.ce 0 rfl)).to (by rw [fd_in]))) (fun s hs _ => ev_var rfl)).lst) (rc_tupL .vl (.inl rfl))).less (List.nil_sublist _)) ⟨?_, rfl⟩
    rw [hf.fin (hc rfl)]
    rfl
end
/-- the posts from which an end of gs is reached -/
noncomputable def bfStep (ps : List Str) (es : List Ln) (fs : List Str) (g : Str) : List Str := fs ++ (rchL ps (revE es) g).filter fun p => !decide (p ∈ fs)
noncomputable def bfL (ps : List Str) (es : List Ln) (gs : List Str) : List Str := gs.foldl (bfStep ps es) []
theorem bf_mem {ps : List Str} {es : List Ln} {p : Str} : ∀ {gs fs : List Str}, p ∈ gs.foldl (bfStep ps es) fs ↔ p ∈ fs ∨ ∃ g ∈ gs, p ∈ rchL ps (revE es) g
  | [], fs => by simp
  | g :: gs, fs => by
    rw [List.foldl_cons, bf_mem (gs := gs)]
    have e : p ∈ bfStep ps es fs g ↔ p ∈ fs ∨ p ∈ rchL ps (revE es) g := by
      unfold bfStep
      rw [List.mem_append, List.mem_filter]
      by_cases h : p ∈ fs <;> simp [h]
    rw [e]
    constructor
    · rintro ((h | h) | ⟨g', h1, h2⟩)
      · exact .inl h
      · exact .inr ⟨g, List.mem_cons_self, h⟩
      · exact .inr ⟨g', List.mem_cons_of_mem _ h1, h2⟩
    · rintro (h | ⟨g', h1, h2⟩)
      · exact .inl (.inl h)
      · rcases List.mem_cons.mp h1 with rfl | h1
        · exact .inl (.inr h2)
        · exact .inr ⟨g', h1, h2⟩
theorem rchL_len (ps : List Str) (es : List Ln) (s : Str) : (rchL ps es s).length ≤ ps.length := by unfold rchL; exact List.length_filter_le _ _
theorem bf_len {ps : List Str} {es : List Ln} : ∀ {gs fs : List Str}, (gs.foldl (bfStep ps es) fs).length ≤ fs.length + gs.length * ps.length
  | [], fs => by simp
  | g :: gs, fs => by
    rw [List.foldl_cons]
    have h := bf_len (ps := ps) (es := es) (gs := gs) (fs := bfStep ps es fs g)
    have h2 : (bfStep ps es fs g).length ≤ fs.length + ps.length := by
      unfold bfStep
      rw [List.length_append]
      have := List.length_filter_le (fun p => !decide (p ∈ fs)) (rchL ps (revE es) g)
      have := rchL_len ps (revE es) g
      omega
    rw [List.length_cons, Nat.add_mul]
    omega
def ct_posts_before (K : PySem.W.Frag) : Ct := Ct2 fun a b ka out => ∃ ps es gs, a = .val (NetD K ps es) ∧ b = .val (.tup (stD gs)) ∧ (∀ g ∈ gs, g ∈ ps) ∧ (∀ r ∈ es, r.2.1 ∈ ps) ∧ (lnN es).Nodup ∧ ps.length ≤ 100 ∧ gs.length ≤ 100 ∧ es.length ≤ 50000 ∧ ka = [] ∧ out = Rt (.lst (stD (bfL ps es gs))) []
section
variable {P : Program} {w : World} {K : PySem.W.Frag} {mg : Str → Option Value} {base : Heap}
theorem ok_posts_before (T : Tx K mg) (F_Net___neg : Fn P w K mg base 6 (He.ma K (He.ga K "Net") "__neg__") ["self"] (ct_Net___neg K)) (F_reached_posts : Fn P w K mg base 4 (He.ga K "reached_posts") ["net", "start"] (ct_reached_posts K)) : Fn P w K mg base 8 (He.ga K "posts_before") ["net", "ends"] (ct_posts_before K) := by
  obtain ⟨fd, F⟩ := T.d_posts_before
  refine fn_ok F sc_posts_before (fun _ _ _ _ _ _ us hl => match us, hl with | [_, _], _ => rfl) ct2_len (fun cdv A outer s H E hr => ⟨_, (pss_cons (ps_set (i := 2) sc_posts_before.nd rfl (by first | exact Or.inl rfl | exact Or.inr rfl) (pe_lst pa_nil))
      (pss_cons (ps_for (passes_of rfl) rfl (pi_seq (pv 1)) (pg_name (i := 3) sc_posts_before.nd rfl (by first | exact Or.inl rfl | exact Or.inr rfl)) (pss_one (ps_set (i := 2) sc_posts_before.nd rfl (by first | exact Or.inl rfl | exact Or.inr rfl) (pe_op op_addU (pv 2) (pe_lc (te := (tVar 4)) (tt := (tTest (tOp (rNiU K) (tVar 4) (tVar 2)))) (own := [("post", 4)]) rfl sc_posts_before.nd (pi_seq (pe_call (F_reached_posts.up (by decide)).ok hr rfl T.g_reached_posts.1 T.g_reached_posts.2 (F_reached_posts.up (by decide)).bn .nil (pass_own rfl rfl rfl rfl) (pa_cons (pe_un (un_ow T.sm_Net_neg (F_Net___neg.up (by decide)) hr (pass_own rfl rfl rfl rfl)) (pv 0)) (pa_cons (pv 3) pa_nil)))) (blk_ok ["net", "ends", "found", "end", "post"] (defScope s_posts_before) rfl rfl (by decide +kernel)) (fun _ _ _ _ _ => (pg_name (i := 4) sc_posts_before.nd rfl (by first | exact Or.inl rfl | exact Or.inr rfl))) (fun _ _ _ _ _ => (pts_one (pt_cmpR op_niU (pv 4) (pv 2) (by with_unfolding_all rfl)))) (fun _ _ _ _ _ => (pv 4)))))))
      (pss_one (ps_ret (pv 2))))), fun ws ka out B F0 Q hC hR hX => ?_⟩)
  obtain ⟨a, b, rfl, ps, es, gs, rfl, rfl, hg, hps, hn, hl, hgl, hel, rfl, rfl⟩ := hC
  have hn2 : (lnN (revE es)).Nodup := by rw [lnN_revE]; exact hn
  have hps2 : ∀ r ∈ revE es, r.2.2 ∈ ps := fun r hr => by
    obtain ⟨r', h1, rfl⟩ := List.mem_map.mp hr
    exact hps r' h1
  refine q_asg (evn_lst (ds := []) ea_nil (by decide)).lst ?_
  refine q_forn (ei_strsL (ss := gs) (ev_var rfl) .vt) (fun i ro ka => ∃ v v2, ro = [some (.val (NetD K ps es)), some (.val (.tup (stD gs))), some (.val (.lst (stD (bfL ps es (gs.take i))))), v, v2] ∧ ka = []) ⟨none, none, rfl, rfl⟩ (fun i ro ka _ => trivial) (fun i w ro2 ka2 ta' hw ⟨v, v2, e1, e2⟩ => ?_) (fun ro2 ka2 ta' ⟨v, v2, e1, e2⟩ _ => ?_)
  · subst e1 e2
    rw [List.getElem?_map] at hw
    obtain ⟨g, hg1, rfl⟩ := Option.map_eq_some_iff.mp hw
    have hgm := List.mem_of_getElem? hg1
    have hlb := bf_len (ps := ps) (es := es) (gs := gs.take i) (fs := [])
    have hlt : (gs.take i).length ≤ 100 := by rw [List.length_take]; omega
    have hmul : (gs.take i).length * ps.length ≤ 100 * 100 := Nat.mul_le_mul hlt hl
    have hlr := rchL_len ps (revE es) g
    have hlf := List.length_filter_le (fun p => !decide (p ∈ bfL ps es (gs.take i))) (rchL ps (revE es) g)
    have hlb2 : (bfL ps es (gs.take i)).length ≤ 10000 := by unfold bfL; rw [List.length_nil] at hlb; omega
    refine g_asg ((evn_op (ev_var rfl) (evn_filt (xs := rchL ps (revE es) g) (g := fun s => W.val (.str s)) (f := fun s => D.str s) (p := fun p => !decide (p ∈ bfL ps es (gs.take i))) (ei_strsL (ev_callP (ea2 (EvR.frzN (k1 := []) (evr_unO (k1 := []) [] (ev_var rfl) .v ⟨_, rfl, ps, es, rfl, by omega, hel, hn, rfl, rfl⟩ (fun o k ⟨a, o2, d, e, _⟩ => ⟨_, e⟩)) ?hz) (ev_var rfl)) ⟨_, _, rfl, ps, revE es, g, rfl, rfl, hg g hgm, hps2, hn2, by omega, by rw [revE_len]; exact hel, rfl, rfl⟩) .vt) (by decide) (by omega) ⟨trivial, fun _ => trivial⟩ (fun s hs => et_test (ev_niL (ev_var rfl) (ev_var rfl) .vl)) (fun s hs _ => ev_var rfl)).lst (rvn_cat (b1 := false) (b2 := false) .vl .vl (by rw [stD_len, List.length_map]; omega))).lst.to (w' := .val (.lst (stD (bfL ps es (gs.take (i + 1)))))) ?hv) (g_jp ⟨_, _, rfl, rfl⟩)
    case hz =>
      rintro w k ⟨d, k3, ⟨a, o, d2, e1, rfl⟩, rfl, rfl⟩
      cases e1
      exact ⟨a, o, d2, rfl, by simp [NetC]⟩
    case hv =>
      refine congrArg (fun z => W.val (.lst z)) ?_
      unfold bfL
      rw [take_succ_some hg1, List.foldl_append, List.foldl_cons, List.foldl_nil]
      unfold bfStep
      exact stD_app _ _
  · subst e1 e2
    rw [List.length_map, List.take_length]
    exact g_ret hR (ev_var rfl) ⟨rfl, rfl⟩
end
/-- a course as data, as cells -/
def CrsD (K : PySem.W.Frag) (ps : List Str) (es : List Ln) (s : Str) (gs : List Str) : D := .ins (He.ga K "Course") [("base", NetD K ps es), ("start", .str s), ("ends", .tup (stD gs))]
def CrsC (K : PySem.W.Frag) (a n o d : Addr) (ps : List Str) (es : List Ln) (s : Str) (gs : List Str) : Cells := NetC K n o d ps es ++ [(a, .ins (He.ga K "Course") [("base", .adr n), ("start", .str s), ("ends", .tup (stD gs))])]
theorem frz_crs {K : PySem.W.Frag} {kt : Cells} {a n o d : Addr} {ps : List Str} {es : List Ln} {s : Str} {gs : List Str} (h : ∀ p ∈ CrsC K a n o d ps es s gs, p ∈ kt) : FrzD K kt a (CrsD K ps es s gs) :=
  frz_i (h _ (List.mem_append_right _ List.mem_cons_self)) ⟨_, _, rfl, .a (frz_net fun p hp => h p (List.mem_append_left _ hp)), _, _, rfl, .s _, _, _, rfl, .s _, rfl⟩
theorem crs_kd {K : PySem.W.Frag} {a n o d : Addr} {ps : List Str} {es : List Ln} {s : Str} {gs : List Str} : ∀ p ∈ CrsC K a n o d ps es s gs, ndK p.2 = true := fun p hp => by
  rcases List.mem_append.mp hp with hp | hp
  · exact net_kd p hp
  · rw [List.mem_singleton.mp hp]; rfl
/-- the posts among gs, in order -/
def goalP (ps gs : List Str) : List Str := ps.filter fun p => decide (p ∈ gs)
def ct_Course___init (K : PySem.W.Frag) : Ct := Ct4 fun s b c e ka out => ∃ a ps es st gs t, s = .val (.adr a) ∧ ka = [(a, .ins (He.ga K "Course") [])] ∧ b = .val (NetD K ps es) ∧ c = .val (.str st) ∧ Lk [] e t (stD gs) false ∧ ps.length ≤ 50000 ∧ es.length ≤ 50000 ∧ gs.length ≤ 50000 ∧ (lnN es).Nodup ∧
  out = match (st :: gs).find? (fun x => !decide (x ∈ ps)) with
    | some x => Xt (He.ga K "NoPost") [("name", .str x)] []
    | none => fun o' k => ∃ n o d, o' = .ret .non ∧ k = CrsC K a n o d ps es st (goalP ps gs)
section
variable {P : Program} {w : World} {K : PySem.W.Frag} {mg : Str → Option Value} {base : Heap}
theorem ok_Course___init (T : Tx K mg) (F_first_missing : Fn P w K mg base 4 (He.ga K "first_missing") ["names", "known"] (ct_first_missing K)) (F_Net_posts : Fn P w K mg base 4 (pga K (He.ga K "Net") "posts") ["self"] (ct_Net_posts K)) (F_Net_copy : Fn P w K mg base 6 (He.ma K (He.ga K "Net") "copy") ["self"] (ct_Net_copy K)) (Z_NoPost : Xn P w K mg base (He.ga K "NoPost") "name") : Fn P w K mg base 8 (He.ma K (He.ga K "Course") "__init__") ["self", "net", "start", "ends"] (ct_Course___init K) := by
  obtain ⟨fd, F⟩ := T.d_Course___init
  refine fn_ok F sc_Course___init (fun _ _ _ _ _ _ us hl => match us, hl with | [_, _, _, _], _ => rfl) ct4_len (fun cdv A outer s H E hr => ⟨_, (pss_cons (ps_set (i := 4) sc_Course___init.nd rfl (by first | exact Or.inl rfl | exact Or.inr rfl) (pe_call (F_first_missing.up (by decide)).ok hr rfl T.g_first_missing.1 T.g_first_missing.2 (F_first_missing.up (by decide)).bn .nil (pass_own rfl rfl rfl rfl) (pa_cons (pe_op op_addU (pe_lst (pa_cons (pv 2) pa_nil)) (pe_callTy call_lstU rfl T.n_list (by decide +kernel) (pa_cons (pv 3) pa_nil))) (pa_cons (pe_prop (pv 1) T.cl_Net T.pr_Net_posts (F_Net_posts.up (by decide)).ok hr (F_Net_posts.up (by decide)).bn .nil passes_no rfl) pa_nil))))
      (pss_cons (ps_if (pt_cmpR op_notN1 (pv 4) pe_non (nomark _))
      (pss_one (ps_raise rfl (takes_of rfl rfl rfl rfl) (pmk_oex Z_NoPost.xc.oex Z_NoPost.all.1 Z_NoPost.all.2.1 Z_NoPost.all.2.2.1 (hr.mono (by decide)) Z_NoPost.all.2.2.2 .nil passes_no rfl T.g_NoPost.1 (pa_cons (pv 4) pa_nil))))
      pss_nil)
      (pss_cons (ps_fld (pv 0) (pe_meth0 (pv 1) T.cl_Net T.me_Net_copy (F_Net_copy.up (by decide)).ok hr (F_Net_copy.up (by decide)).bn .nil (pass_own rfl rfl rfl rfl)) rfl)
      (pss_cons (ps_fld (pv 0) (pv 2) rfl)
      (pss_one (ps_fld (pv 0) (pe_callTy call_tupU rfl T.n_tuple (by decide +kernel) (pa_cons (pe_lc (te := (tVar 5)) (tt := (tTest (tOp (rInU K) (tVar 5) (tVar 3)))) (own := [("post", 5)]) rfl sc_Course___init.nd (pi_seq (pe_prop (pv 1) T.cl_Net T.pr_Net_posts (F_Net_posts.up (by decide)).ok hr (F_Net_posts.up (by decide)).bn .nil passes_no rfl)) (blk_ok ["self", "net", "start", "ends", "missing", "post"] (defScope s_Course___init) rfl rfl (by decide +kernel)) (fun _ _ _ _ _ => (pg_name (i := 5) sc_Course___init.nd rfl (by first | exact Or.inl rfl | exact Or.inr rfl))) (fun _ _ _ _ _ => (pts_one (pt_cmpR op_inU (pv 5) (pv 3) (by with_unfolding_all rfl)))) (fun _ _ _ _ _ => (pv 5))) pa_nil)) rfl)))))), fun ws ka out B F0 Q hC hR hX => ?_⟩)
  obtain ⟨s, b, c, e, rfl, a, ps, es, st, gs, t, rfl, rfl, rfl, rfl, lw, hl, hel, hgl, hn, rfl⟩ := hC
  have la := lw.app (kr := [(a, .ins (He.ga K "Course") [])])
  refine q_asg (w := .val (fmD (st :: gs) ps)) (ev_callP (ea2 ((evn_op (evn_lst (ds := [.str st]) (ea1 (ev_var rfl)) (show 1 ≤ 100000 by decide)).lst (evn_cb (ea1 (ev_var rfl)) (rcn_lst la (sqf_stD _ gs))).lst (rvn_cat (b1 := false) (b2 := false) .vl .vl (by rw [stD_len, List.length_singleton]; omega))).lst) (ev_prop (k1 := []) [(a, .ins (He.ga K "Course") [])] (ev_var rfl) .v ⟨_, rfl, ps, es, ⟨.inl rfl⟩, rfl⟩ fun _ _ z => z)) ⟨_, _, rfl, st :: gs, ps, false, false, .vl, .sq .vt, rfl⟩) ?_
  cases hf : (st :: gs).find? (fun x => !decide (x ∈ ps)) with
  | some x =>
    rw [hf] at hX
    have e1 : fmD (st :: gs) ps = .str x := by unfold fmD; rw [hf]
    rw [e1]
    exact q_when ((et_test (ev_notN (d := .str x) (ev_var rfl) (.inl rfl))).to (b := true) rfl) (fun _ => Gp.less (k1 := []) (g_raise1 hX (ea1 (ev_var rfl)) Z_NoPost.xc.oex Z_NoPost.no ⟨rfl, rfl⟩) (List.nil_sublist _)) (fun z => by cases z)
  | none =>
  rw [hf] at hR
  have e1 : fmD (st :: gs) ps = .non := by unfold fmD; rw [hf]
  rw [e1]
  refine q_when ((et_test (ev_notN (d := .non) (ev_var rfl) (.inl rfl))).to (b := false) rfl) (fun z => by cases z) (fun _ => ?_)
  refine q_fldR (C := He.ga K "Course") (a := a) (evr_meth (k1 := [(a, .ins (He.ga K "Course") [])]) (k2 := []) [(a, .ins (He.ga K "Course") [])] (ev_var rfl) .v rfl ea_nil ⟨_, rfl, ps, es, rfl, hl, hel, hn, rfl, rfl⟩ (fun o k ⟨n, o2, d, e, _⟩ => ⟨_, e⟩)) T.cl_Course T.na_Course_base (fun w k1 ⟨dd, k3, ⟨n, o, d, e2, e3⟩, e4, e5⟩ => ?_)
  cases e2
  subst e3 e4 e5
  refine ⟨.adr n, _, 3, [], rfl, ev_var rfl, rfl, by decide, ?_⟩
  refine q_fld (j := 3) (a := a) (fs := [("base", .adr n)]) (d := .str st) (ev_var rfl) (ev_var rfl) rfl T.cl_Course T.na_Course_start (show 1 < 900 by decide) ?_
  have lb := lw.app (kr := NetC K n o d ps es ++ [(a, .ins (He.ga K "Course") [("base", .adr n), ("start", .str st)])])
  refine g_fld (j := 3) (a := a) (fs := [("base", .adr n), ("start", .str st)]) (d := .tup (stD (goalP ps gs))) (ev_cb (ea1 ((evn_filt (xs := ps) (g := fun s => W.val (.str s)) (f := fun s => D.str s) (p := fun l => decide (l ∈ gs)) (ei_strsL (ev_prop (k1 := []) (NetC K n o d ps es ++ [(a, .ins (He.ga K "Course") [("base", .adr n), ("start", .str st)])]) (ev_var rfl) .v ⟨_, rfl, ps, es, ⟨.inl rfl⟩, rfl⟩ fun _ _ z => z) .vt) (by decide) (by omega) ⟨trivial, fun _ => trivial⟩ (fun l hl => et_test (ev_inL (ev_var rfl) (ev_var rfl) lb)) (fun l hl _ => ev_var rfl)).lst)) (rc_tupL .vl (sqf_stD _ _))) (ev_var rfl) rfl T.cl_Course T.na_Course_ends (show 2 < 900 by decide) (g_end hR ⟨n, o, d, rfl, rfl⟩)
end
theorem Rch.trans {es : List Ln} {p q z : Str} (a : Rch es p q) (b : Rch es q z) : Rch es p z := by
  induction b with
  | refl => exact a
  | step _ m e ih => exact .step ih m e
theorem Rch.head {es : List Ln} {r : Ln} {q : Str} (m : r ∈ es) (h : Rch es r.2.2 q) : Rch es r.2.1 q := Rch.trans (.step .refl m rfl) h
theorem revE_revE (es : List Ln) : revE (revE es) = es := by
  unfold revE
  rw [List.map_map]
  exact List.map_id _
theorem rch_rev {es : List Ln} {p q : Str} (h : Rch es p q) : Rch (revE es) q p := by
  induction h with
  | refl => exact .refl
  | @step x r _ m e ih =>
    have hm : (r.1, r.2.2, r.2.1) ∈ revE es := List.mem_map.mpr ⟨r, m, rfl⟩
    refine Rch.head hm ?_
    show Rch (revE es) r.2.1 p
    rw [e]
    exact ih
theorem rch_rev_iff {es : List Ln} {p q : Str} : Rch (revE es) q p ↔ Rch es p q := ⟨fun h => by
  have := rch_rev h
  rwa [revE_revE] at this, rch_rev⟩
theorem mem_rchL {ps : List Str} {es : List Ln} {p q : Str} : q ∈ rchL ps es p ↔ q ∈ ps ∧ Rch es p q := by
  unfold rchL
  rw [List.mem_filter]
  simp
open Classical in
/-- is the lane on a way from st to one of gs -/
noncomputable def usdB (es : List Ln) (st : Str) (gs : List Str) (r : Ln) : Bool := decide (Rch es st r.2.1 ∧ ∃ g ∈ gs, Rch es r.2.2 g)
noncomputable def usedL (es : List Ln) (st : Str) (gs : List Str) : List Str := lnN (es.filter (usdB es st gs))
theorem usd_iff {es : List Ln} {st : Str} {gs : List Str} {r : Ln} : usdB es st gs r = true ↔ Rch es st r.2.1 ∧ ∃ g ∈ gs, Rch es r.2.2 g := by
  unfold usdB
  simp
theorem Wk.app {es : List Ln} {q z : Str} {ms : List Str} : ∀ {ls : List Str} {p : Str}, Wk es p ls q → Wk es q ms z → Wk es p (ls ++ ms) z
  | [], _, h, k => (show _ = q from h) ▸ k
  | _ :: _, _, ⟨r, m, e1, e2, h⟩, k => ⟨r, m, e1, e2, Wk.app h k⟩
theorem goal_mem {ps gs : List Str} (h : ∀ g ∈ gs, g ∈ ps) {q : Str} : q ∈ goalP ps gs ↔ q ∈ gs := by
  unfold goalP
  rw [List.mem_filter, decide_eq_true_eq]
  exact ⟨fun z => z.2, fun z => ⟨h q z, z⟩⟩
theorem usdB_goal {es : List Ln} {ps gs : List Str} {st : Str} (h : ∀ g ∈ gs, g ∈ ps) : usedL es st (goalP ps gs) = usedL es st gs := by
  unfold usedL
  refine congrArg lnN (List.filter_congr fun r _ => ?_)
  rw [Bool.eq_iff_iff, usd_iff, usd_iff]
  simp only [goal_mem h]
theorem ei_ln {K : PySem.W.Frag} {wi : TI} {ro : Ro} {ka k1 : Cells} {C : Cells → Prop} {es : List Ln} (h : EvI K wi ro ka ((lnN es).map fun s => W.val (.str s)) C k1) : EvI K wi ro ka (es.map fun r => W.val (.str r.1)) C k1 := by
  unfold lnN at h
  rw [List.map_map] at h
  exact h
def ct_lanes_of (K : PySem.W.Frag) : Ct := Ct1 fun s ka out => ∃ ps es st gs, s = .val (CrsD K ps es st gs) ∧ st ∈ ps ∧ (∀ g ∈ gs, g ∈ ps) ∧ (∀ r ∈ es, r.2.1 ∈ ps ∧ r.2.2 ∈ ps) ∧ (lnN es).Nodup ∧ ps.length ≤ 100 ∧ gs.length ≤ 100 ∧ es.length ≤ 10000 ∧ ka = [] ∧ out = Rt (.tup (stD (usedL es st gs))) []
section
variable {P : Program} {w : World} {K : PySem.W.Frag} {mg : Str → Option Value} {base : Heap}
theorem ok_lanes_of (T : Tx K mg) (F_Net_lanes : Fn P w K mg base 4 (pga K (He.ga K "Net") "lanes") ["self"] (ct_Net_lanes K)) (F_Net_start_of : Fn P w K mg base 4 (He.ma K (He.ga K "Net") "start_of") ["self", "lane"] (ct_Net_start_of K)) (F_Net_end_of : Fn P w K mg base 4 (He.ma K (He.ga K "Net") "end_of") ["self", "lane"] (ct_Net_end_of K)) (F_reached_posts : Fn P w K mg base 4 (He.ga K "reached_posts") ["net", "start"] (ct_reached_posts K)) (F_posts_before : Fn P w K mg base 8 (He.ga K "posts_before") ["net", "ends"] (ct_posts_before K)) : Fn P w K mg base 10 (He.ga K "lanes_of") ["course"] (ct_lanes_of K) := by
  obtain ⟨fd, F⟩ := T.d_lanes_of
  refine fn_ok F sc_lanes_of (fun _ _ _ _ _ _ us hl => match us, hl with | [_], _ => rfl) ct1_len (fun cdv A outer s H E hr => ⟨_, (pss_cons (ps_set (i := 1) sc_lanes_of.nd rfl (by first | exact Or.inl rfl | exact Or.inr rfl) (pe_fld (pv 0) rfl))
      (pss_cons (ps_set (i := 2) sc_lanes_of.nd rfl (by first | exact Or.inl rfl | exact Or.inr rfl) (pe_call (F_reached_posts.up (by decide)).ok hr rfl T.g_reached_posts.1 T.g_reached_posts.2 (F_reached_posts.up (by decide)).bn .nil (pass_own rfl rfl rfl rfl) (pa_cons (pv 1) (pa_cons (pe_fld (pv 0) rfl) pa_nil))))
      (pss_cons (ps_set (i := 3) sc_lanes_of.nd rfl (by first | exact Or.inl rfl | exact Or.inr rfl) (pe_call (F_posts_before.up (by decide)).ok hr rfl T.g_posts_before.1 T.g_posts_before.2 (F_posts_before.up (by decide)).bn .nil (pass_own rfl rfl rfl rfl) (pa_cons (pv 1) (pa_cons (pe_fld (pv 0) rfl) pa_nil))))
      (pss_one (ps_ret (pe_callTy call_tupU rfl T.n_tuple (by decide +kernel) (pa_cons (pe_lc (te := (tVar 4)) (tt := (tAnd (tTest (tOp (rInU K) (tMeth (He.ga K "Net") "start_of" (spC K (ct_Net_start_of K)) [] (fun _ _ _ => False) (tVar 1) (tCons (tVar 4) tNil)) (tVar 2))) (tTest (tOp (rInU K) (tMeth (He.ga K "Net") "end_of" (spC K (ct_Net_end_of K)) [] (fun _ _ _ => False) (tVar 1) (tCons (tVar 4) tNil)) (tVar 3))))) (own := [("lane", 4)]) rfl sc_lanes_of.nd (pi_seq (pe_prop (pv 1) T.cl_Net T.pr_Net_lanes (F_Net_lanes.up (by decide)).ok hr (F_Net_lanes.up (by decide)).bn .nil passes_no rfl)) (blk_ok ["course", "base", "ahead", "back", "lane"] (defScope s_lanes_of) rfl rfl (by decide +kernel)) (fun _ _ _ _ _ => (pg_name (i := 4) sc_lanes_of.nd rfl (by first | exact Or.inl rfl | exact Or.inr rfl))) (fun _ _ _ _ _ => (pts_one (PW.pt (pw_and (pt_cmpR op_inU (pe_meth (pv 1) T.cl_Net T.me_Net_start_of (F_Net_start_of.up (by decide)).ok hr (F_Net_start_of.up (by decide)).bn .nil passes_no (pa_cons (pv 4) pa_nil)) (pv 2) (by with_unfolding_all rfl)) (pw_and1 (pt_cmpR op_inU (pe_meth (pv 1) T.cl_Net T.me_Net_end_of (F_Net_end_of.up (by decide)).ok hr (F_Net_end_of.up (by decide)).bn .nil passes_no (pa_cons (pv 4) pa_nil)) (pv 3) (by with_unfolding_all rfl))))))) (fun _ _ _ _ _ => (pv 4))) pa_nil))))))), fun ws ka out B F0 Q hC hR hX => ?_⟩)
  obtain ⟨s, rfl, ps, es, st, gs, rfl, hst, hg, hps, hn, hl, hgl, hel, rfl, rfl⟩ := hC
  have cC := T.cl_Course
  refine q_asg (w := .val (NetD K ps es)) (ev_fld (ev_var rfl) .v cC T.na_Course_base rfl) ?_
  refine q_asg (ev_callP (ea2 (ev_var rfl) (ev_fld (ev_var rfl) .v cC T.na_Course_start rfl)) ⟨_, _, rfl, ps, es, st, rfl, rfl, hst, fun r hr => (hps r hr).2, hn, by omega, by omega, rfl, rfl⟩) ?_
  refine q_asg (ev_callP (ea2 (ev_var rfl) (ev_fld (ev_var rfl) .v cC T.na_Course_ends rfl)) ⟨_, _, rfl, ps, es, gs, rfl, rfl, hg, fun r hr => (hps r hr).1, hn, hl, hgl, by omega, rfl, rfl⟩) ?_
  refine g_ret hR (ev_cb (ea1 ((evn_filt (xs := es) (g := fun r => W.val (.str r.1)) (f := fun r => D.str r.1) (p := fun r => decide (r.2.1 ∈ rchL ps es st) && decide (r.2.2 ∈ bfL ps es gs)) (ei_ln (ei_strsL (ev_prop (k1 := []) [] (ev_var rfl) .v ⟨_, rfl, ps, es, rfl, by omega, rfl, rfl⟩ fun _ _ z => z) .vt)) (by decide) (by omega) ⟨trivial, fun _ => trivial⟩ (fun r hr => et_and (et_test (ev_inL (ev_methP (d := .str r.2.1) (ev_var rfl) .v rfl (ea1 (ev_var rfl)) ⟨_, _, rfl, ps, es, r.1, ⟨.inl rfl⟩, rfl, hn, .inl ⟨r, hr, rfl, rfl⟩⟩) (ev_var rfl) .vt)) fun _ => et_test (ev_inL (ev_methP (d := .str r.2.2) (ev_var rfl) .v rfl (ea1 (ev_var rfl)) ⟨_, _, rfl, ps, es, r.1, ⟨.inl rfl⟩, rfl, hn, .inl ⟨r, hr, rfl, rfl⟩⟩) (ev_var rfl) .vl)) (fun r hr _ => ev_var rfl)).lst.to (w' := .val (.lst (stD (usedL es st gs)))) ?_)) (rc_tupL .vl (.inl rfl))) ⟨rfl, rfl⟩
  refine congrArg (fun z => W.val (.lst z)) ?_
  unfold usedL lnN stD
  rw [List.map_map]
  refine congrArg (List.map _) (List.filter_congr fun r hr => ?_)
  rw [Bool.eq_iff_iff, usd_iff, Bool.and_eq_true, decide_eq_true_eq, decide_eq_true_eq, mem_rchL]
  unfold bfL
  rw [bf_mem]
  constructor
  · rintro ⟨⟨_, h1⟩, h2 | ⟨g, h2, h3⟩⟩
    · cases h2
    · exact ⟨h1, g, h2, rch_rev_iff.mp (mem_rchL.mp h3).2⟩
  · rintro ⟨h1, g, h2, h3⟩
    exact ⟨⟨(hps r hr).1, h1⟩, .inr ⟨g, h2, mem_rchL.mpr ⟨(hps r hr).2, rch_rev_iff.mpr h3⟩⟩⟩
end
def ct_check_known (K : PySem.W.Frag) : Ct := Ct2 fun a b ka out => ∃ ps es st gs ws t, a = .val (CrsD K ps es st gs) ∧ Lk [] b t (stD ws) false ∧ es.length ≤ 10000 ∧ ka = [] ∧ out = match ws.find? (fun x => !decide (x ∈ lnN es)) with
  | some x => Xt (He.ga K "NoLane") [("name", .str x)] []
  | none => Rt .non []
section
variable {P : Program} {w : World} {K : PySem.W.Frag} {mg : Str → Option Value} {base : Heap}
theorem ok_check_known (T : Tx K mg) (F_first_missing : Fn P w K mg base 4 (He.ga K "first_missing") ["names", "known"] (ct_first_missing K)) (F_Net_lanes : Fn P w K mg base 4 (pga K (He.ga K "Net") "lanes") ["self"] (ct_Net_lanes K)) (Z_NoLane : Xn P w K mg base (He.ga K "NoLane") "name") : Fn P w K mg base 6 (He.ga K "check_known") ["course", "lanes"] (ct_check_known K) := by
  obtain ⟨fd, F⟩ := T.d_check_known
  refine fn_ok F sc_check_known (fun _ _ _ _ _ _ us hl => match us, hl with | [_, _], _ => rfl) ct2_len (fun cdv A outer s H E hr => ⟨_, (pss_cons (ps_set (i := 2) sc_check_known.nd rfl (by first | exact Or.inl rfl | exact Or.inr rfl) (pe_call (F_first_missing.up (by decide)).ok hr rfl T.g_first_missing.1 T.g_first_missing.2 (F_first_missing.up (by decide)).bn .nil (pass_own rfl rfl rfl rfl) (pa_cons (pv 1) (pa_cons (pe_prop (pe_fld (pv 0) rfl) T.cl_Net T.pr_Net_lanes (F_Net_lanes.up (by decide)).ok hr (F_Net_lanes.up (by decide)).bn .nil passes_no rfl) pa_nil))))
      (pss_one (ps_if (pt_cmpR op_notN1 (pv 2) pe_non (nomark _))
      (pss_one (ps_raise rfl (takes_of rfl rfl rfl rfl) (pmk_oex Z_NoLane.xc.oex Z_NoLane.all.1 Z_NoLane.all.2.1 Z_NoLane.all.2.2.1 (hr.mono (by decide)) Z_NoLane.all.2.2.2 .nil passes_no rfl T.g_NoLane.1 (pa_cons (pv 2) pa_nil))))
      pss_nil))), fun ws ka out B F0 Q hC hR hX => ?_⟩)
  obtain ⟨a, b, rfl, ps, es, st, gs, ws, t, rfl, lb, hel, rfl, rfl⟩ := hC
  refine q_asg (w := .val (fmD ws (lnN es))) (ev_callP (ea2 (ev_var rfl) (ev_prop (k1 := []) [] (ev_fld (ev_var rfl) .v T.cl_Course T.na_Course_base rfl) .v ⟨_, rfl, ps, es, rfl, by omega, rfl, rfl⟩ fun _ _ z => z)) ⟨_, _, rfl, ws, lnN es, t, false, lb, .sq .vt, rfl⟩) ?_
  cases hf : ws.find? (fun x => !decide (x ∈ lnN es)) with
  | some x =>
    rw [hf] at hX
    have e1 : fmD ws (lnN es) = .str x := by unfold fmD; rw [hf]
    rw [e1]
    exact g_if ((et_test (ev_notN (d := .str x) (ev_var rfl) (.inl rfl))).to (b := true) rfl) (fun _ => g_raise1 hX (ea1 (ev_var rfl)) Z_NoLane.xc.oex Z_NoLane.no ⟨rfl, rfl⟩) (fun z => by cases z)
  | none =>
    rw [hf] at hR
    have e1 : fmD ws (lnN es) = .non := by unfold fmD; rw [hf]
    rw [e1]
    exact g_if ((et_test (ev_notN (d := .non) (ev_var rfl) (.inl rfl))).to (b := false) rfl) (fun z => by cases z) (fun _ => g_next (g_end hR ⟨rfl, rfl⟩))
end
/-- a course as the laws make it -/
structure CkOk (ps : List Str) (es : List Ln) (st : Str) (gs : List Str) : Prop where
  hst : st ∈ ps
  hgs : ∀ g ∈ gs, g ∈ ps
  hes : ∀ r ∈ es, r.2.1 ∈ ps ∧ r.2.2 ∈ ps
  nd : (lnN es).Nodup
  pl : ps.length ≤ 40
  gl : gs.length ≤ 40
  el : es.length ≤ 100
/-- how asking about lanes ends: the first strange one, the first one that no run takes -/
noncomputable def cuO (K : PySem.W.Frag) (es : List Ln) (st : Str) (gs ws : List Str) : Oc := match ws.find? (fun x => !decide (x ∈ lnN es)) with
  | some x => Xt (He.ga K "NoLane") [("name", .str x)] []
  | none => match ws.find? (fun x => !decide (x ∈ usedL es st gs)) with
    | some x => Xt (He.ga K "NoRun") [("name", .str x)] []
    | none => Rt .non []
theorem used_in {es : List Ln} {st : Str} {gs : List Str} {l : Str} (h : l ∈ usedL es st gs) : l ∈ lnN es := by
  unfold usedL at h
  obtain ⟨r, hr, rfl⟩ := List.mem_map.mp h
  exact List.mem_map.mpr ⟨r, (List.mem_filter.mp hr).1, rfl⟩
theorem cuO_ok {K : PySem.W.Frag} {es : List Ln} {st : Str} {gs ws : List Str} (h : ∀ w ∈ ws, w ∈ usedL es st gs) : cuO K es st gs ws = Rt .non [] := by
  unfold cuO
  rw [List.find?_eq_none.mpr fun w hw => by simp [used_in (h w hw)], List.find?_eq_none.mpr fun w hw => by simp [h w hw]]
def ct_check_used (K : PySem.W.Frag) : Ct := Ct2 fun a b ka out => ∃ ps es st gs ws t, a = .val (CrsD K ps es st gs) ∧ CkOk ps es st gs ∧ Lk [] b t (stD ws) false ∧ ka = [] ∧ out = cuO K es st gs ws
section
variable {P : Program} {w : World} {K : PySem.W.Frag} {mg : Str → Option Value} {base : Heap}
theorem ok_check_used (T : Tx K mg) (F_first_missing : Fn P w K mg base 4 (He.ga K "first_missing") ["names", "known"] (ct_first_missing K)) (F_lanes_of : Fn P w K mg base 10 (He.ga K "lanes_of") ["course"] (ct_lanes_of K)) (F_check_known : Fn P w K mg base 6 (He.ga K "check_known") ["course", "lanes"] (ct_check_known K)) (Z_NoRun : Xn P w K mg base (He.ga K "NoRun") "name") : Fn P w K mg base 12 (He.ga K "check_used") ["course", "lanes"] (ct_check_used K) := by
  obtain ⟨fd, F⟩ := T.d_check_used
  refine fn_ok F sc_check_used (fun _ _ _ _ _ _ us hl => match us, hl with | [_, _], _ => rfl) ct2_len (fun cdv A outer s H E hr => ⟨_, (pss_cons (ps_expr (pe_call (F_check_known.up (by decide)).ok hr rfl T.g_check_known.1 T.g_check_known.2 (F_check_known.up (by decide)).bn .nil (pass_own rfl rfl rfl rfl) (pa_cons (pv 0) (pa_cons (pv 1) pa_nil))))
      (pss_cons (ps_set (i := 2) sc_check_used.nd rfl (by first | exact Or.inl rfl | exact Or.inr rfl) (pe_call (F_first_missing.up (by decide)).ok hr rfl T.g_first_missing.1 T.g_first_missing.2 (F_first_missing.up (by decide)).bn .nil (pass_own rfl rfl rfl rfl) (pa_cons (pv 1) (pa_cons (pe_call (F_lanes_of.up (by decide)).ok hr rfl T.g_lanes_of.1 T.g_lanes_of.2 (F_lanes_of.up (by decide)).bn .nil (pass_own rfl rfl rfl rfl) (pa_cons (pv 0) pa_nil)) pa_nil))))
      (pss_one (ps_if (pt_cmpR op_notN1 (pv 2) pe_non (nomark _))
      (pss_one (ps_raise rfl (takes_of rfl rfl rfl rfl) (pmk_oex Z_NoRun.xc.oex Z_NoRun.all.1 Z_NoRun.all.2.1 Z_NoRun.all.2.2.1 (hr.mono (by decide)) Z_NoRun.all.2.2.2 .nil passes_no rfl T.g_NoRun.1 (pa_cons (pv 2) pa_nil))))
      pss_nil)))), fun ws ka out B F0 Q hC hR hX => ?_⟩)
  obtain ⟨a, b, rfl, ps, es, st, gs, ws, t, rfl, ck, lb, rfl, rfl⟩ := hC
  have hel := ck.el
  have hpl := ck.pl
  have hgl := ck.gl
  unfold cuO at hR hX
  cases hf : ws.find? (fun x => !decide (x ∈ lnN es)) with
  | some x =>
    rw [hf] at hX
    exact q_dropP hX (evx_call (k2 := []) (kr := []) (k3 := []) (ea2 (ev_var rfl) (ev_var rfl)) ⟨_, _, rfl, ps, es, st, gs, ws, t, rfl, lb, by omega, rfl, by rw [hf]⟩ rfl) ⟨rfl, rfl⟩
  | none =>
  rw [hf] at hR hX
  dsimp only at hR hX
  refine q_drop (ev_callP (ea2 (ev_var rfl) (ev_var rfl)) ⟨_, _, rfl, ps, es, st, gs, ws, t, rfl, lb, by omega, rfl, by rw [hf]⟩) ?_
  refine q_asg (w := .val (fmD ws (usedL es st gs))) (ev_callP (ea2 (ev_var rfl) (ev_callP (ea1 (ev_var rfl)) ⟨_, rfl, ps, es, st, gs, rfl, ck.hst, ck.hgs, ck.hes, ck.nd, by omega, by omega, by omega, rfl, rfl⟩)) ⟨_, _, rfl, ws, usedL es st gs, t, false, lb, .sq .vt, rfl⟩) ?_
  cases hf2 : ws.find? (fun x => !decide (x ∈ usedL es st gs)) with
  | some x =>
    rw [hf2] at hX
    have e1 : fmD ws (usedL es st gs) = .str x := by unfold fmD; rw [hf2]
    rw [e1]
    exact g_if ((et_test (ev_notN (d := .str x) (ev_var rfl) (.inl rfl))).to (b := true) rfl) (fun _ => g_raise1 hX (ea1 (ev_var rfl)) Z_NoRun.xc.oex Z_NoRun.no ⟨rfl, rfl⟩) (fun z => by cases z)
  | none =>
    rw [hf2] at hR
    have e1 : fmD ws (usedL es st gs) = .non := by unfold fmD; rw [hf2]
    rw [e1]
    exact g_if ((et_test (ev_notN (d := .non) (ev_var rfl) (.inl rfl))).to (b := false) rfl) (fun z => by cases z) (fun _ => g_next (g_end hR ⟨rfl, rfl⟩))
end
/-! ### runs that take lanes and do not show a pattern -/
/-- a standing: a post, the open atoms, the wanted lanes that were taken -/
abbrev Sg := Str × List Nat × List Str
def sgK (x : Sg) : NestedKey := .tup [.text x.1, nmK x.2.1, txK x.2.2]
theorem sgK_inj {x y : Sg} (h : sgK x = sgK y) : x = y := by
  unfold sgK at h
  injection h with h
  injection h with h1 h
  injection h with h2 h
  injection h with h3 _
  injection h1 with h1
  exact Prod.ext h1 (Prod.ext (nm_inj h2) (tx_inj h3))
theorem sgK_D (x : Sg) : nkD (sgK x) = .tup [.str x.1, .tup (nmD x.2.1), .tup (stD x.2.2)] := by
  unfold sgK
  rw [nkD, nkDs, nkDs, nkDs, nkDs, nkD_nm, nkD_tx, nkD]
theorem sgK_dep (x : Sg) : (sgK x).depth ≤ 8 := by
  unfold sgK
  rw [NestedKey.depth, NestedKey.depthAll, NestedKey.depthAll, NestedKey.depthAll, NestedKey.depthAll, dep_nm, dep_tx, NestedKey.depth]
  decide
/-- where a lane leads from a standing -/
def sgGo (m : Mc) (ws : List Str) (x : Sg) (r : Ln) : Sg := (r.2.2, begM m x.2.1 r.1, ws.filter fun o => decide (o ∈ x.2.2) || decide (o = r.1))
def sgSc (es : List Ln) (m : Mc) (ws : List Str) (x : Sg) : List (Str × Sg) := ((es.filter fun r => decide (r.2.1 = x.1)).filter fun r => !doneM m (begM m x.2.1 r.1)).map fun r => (r.1, sgGo m ws x r)
/-- all standings there can be -/
def sgAll (ps : List Str) (m : Mc) (ws : List Str) : List Sg := ps.flatMap fun p => (subs (List.range m.at_.length)).flatMap fun ns => (subs ws).map fun ts => (p, ns, ts)
theorem flat_len {α β : Type} {f : α → List β} {n : Nat} (h : ∀ x, (f x).length = n) : ∀ xs : List α, (xs.flatMap f).length = xs.length * n
  | [] => by simp
  | x :: xs => by
    rw [List.flatMap_cons, List.length_append, h x, flat_len h xs, List.length_cons, Nat.add_mul, Nat.one_mul, Nat.add_comm]
theorem sgAll_len (ps : List Str) (m : Mc) (ws : List Str) : (sgAll ps m ws).length = ps.length * (2 ^ m.at_.length * 2 ^ ws.length) := by
  unfold sgAll
  refine flat_len (fun p => ?_) ps
  rw [flat_len (n := 2 ^ ws.length) fun ns => by rw [List.length_map, subs_len], subs_len, List.length_range]
theorem sgAll_mem {ps : List Str} {m : Mc} {ws : List Str} {x : Sg} : x ∈ sgAll ps m ws ↔ x.1 ∈ ps ∧ x.2.1 ∈ subs (List.range m.at_.length) ∧ x.2.2 ∈ subs ws := by
  unfold sgAll
  rw [List.mem_flatMap]
  constructor
  · rintro ⟨p, hp, h⟩
    obtain ⟨ns, hn, h⟩ := List.mem_flatMap.mp h
    obtain ⟨ts, ht, rfl⟩ := List.mem_map.mp h
    exact ⟨hp, hn, ht⟩
  · rintro ⟨h1, h2, h3⟩
    exact ⟨x.1, h1, List.mem_flatMap.mpr ⟨x.2.1, h2, List.mem_map.mpr ⟨x.2.2, h3, rfl⟩⟩⟩
theorem nil_subs {α : Type} : ∀ xs : List α, [] ∈ subs xs
  | [] => List.mem_singleton.mpr rfl
  | x :: xs => List.mem_append_left _ (nil_subs xs)
theorem subs_short {α : Type} : ∀ (xs ys : List α), ys ∈ subs xs → ys.length ≤ xs.length
  | [], ys, h => by rw [List.mem_singleton.mp h]; exact Nat.le_refl _
  | x :: xs, ys, h => by
    rcases List.mem_append.mp h with h | h
    · have := subs_short xs ys h
      rw [List.length_cons]
      omega
    · obtain ⟨zs, hz, rfl⟩ := List.mem_map.mp h
      have := subs_short xs zs hz
      rw [List.length_cons, List.length_cons]
      omega
theorem sgSc_in {ps : List Str} {es : List Ln} {m : Mc} {ws : List Str} (hes : ∀ r ∈ es, r.2.2 ∈ ps) : ∀ x ∈ sgAll ps m ws, ∀ e ∈ sgSc es m ws x, e.2 ∈ sgAll ps m ws := fun x _ e he => by
  obtain ⟨r, hr, rfl⟩ := List.mem_map.mp he
  have hr2 := (List.mem_filter.mp (List.mem_filter.mp hr).1).1
  exact sgAll_mem.mpr ⟨hes r hr2, begM_sub .., flt_subs ..⟩
theorem Wk.end_ {es : List Ln} {p : Str} {ls : List Str} {r : Ln} (h : Wk es p ls r.2.1) (m : r ∈ es) : Wk es p (ls ++ [r.1]) r.2.2 := Wk.app h ⟨r, m, rfl, rfl, rfl⟩
theorem Wk.last_ {es : List Ln} {l q : Str} : ∀ {ls : List Str} {p : Str}, Wk es p (ls ++ [l]) q → ∃ r ∈ es, r.1 = l ∧ r.2.2 = q ∧ Wk es p ls r.2.1
  | [], p, ⟨r, m, e1, e2, h⟩ => ⟨r, m, e1, h, e2.symm⟩
  | x :: ls, p, ⟨r, m, e1, e2, h⟩ => by
    obtain ⟨r', m', e3, e4, h'⟩ := Wk.last_ h
    exact ⟨r', m', e3, e4, r, m, e1, e2, h'⟩
theorem row_ind {α : Type} {P : List α → Prop} (h0 : P []) (h1 : ∀ xs x, P xs → P (xs ++ [x])) (xs : List α) : P xs := by
  have key : ∀ n (xs : List α), xs.length = n → P xs := by
    intro n
    induction n with
    | zero => intro xs h; rw [List.eq_nil_of_length_eq_zero h]; exact h0
    | succ n ih =>
      intro xs h
      have hne : xs ≠ [] := fun z => by rw [z] at h; cases h
      rw [← List.dropLast_concat_getLast hne]
      exact h1 _ _ (ih _ (by rw [List.length_dropLast, h]; rfl))
  exact key _ xs rfl
/-- where a walk that does not show the pattern leads -/
theorem sg_pt {es : List Ln} {m : Mc} {ws : List Str} {st : Str} {ls : List Str} {x : Sg} : Pt (sgSc es m ws) (st, [], []) ls x ↔ Wk es st ls x.1 ∧ x.2.1 = stM m ls ∧ x.2.2 = ws.filter (fun o => decide (o ∈ ls)) ∧ ¬ shw m ls := by
  have e0 : ws.filter (fun o => decide (o ∈ ([] : List Str))) = [] := by simp
  have es1 : ∀ (ls : List Str) (l : Str), (ws.filter fun o => decide (o ∈ ws.filter (fun o => decide (o ∈ ls))) || decide (o = l)) = ws.filter fun o => decide (o ∈ ls ++ [l]) := fun ls l => List.filter_congr fun o ho => by
    rw [Bool.eq_iff_iff]
    simp [List.mem_filter, ho]
  constructor
  · intro h
    induction h with
    | nil => exact ⟨rfl, rfl, e0.symm, shw_nil⟩
    | @snoc ls x e h he ih =>
      obtain ⟨r, hr, rfl⟩ := List.mem_map.mp he
      obtain ⟨hr, hd⟩ := List.mem_filter.mp hr
      obtain ⟨hr, hp⟩ := List.mem_filter.mp hr
      obtain ⟨h1, h2, h3, h4⟩ := ih
      rw [Bool.not_eq_true'] at hd
      rw [decide_eq_true_eq] at hp
      refine ⟨Wk.end_ (hp ▸ h1) hr, ?_, ?_, fun z => ?_⟩
      · show begM m x.2.1 r.1 = _
        rw [stM_snoc, h2]
      · show (ws.filter fun o => decide (o ∈ x.2.2) || decide (o = r.1)) = _
        rw [h3]
        exact es1 ls r.1
      · rcases shw_snoc.mp z with z | z
        · exact h4 z
        · rw [← h2, hd] at z
          cases z
  · intro h
    induction ls using row_ind generalizing x with
    | h0 =>
      obtain ⟨h1, h2, h3, _⟩ := h
      obtain ⟨a, b, c⟩ := x
      rw [e0] at h3
      cases (show st = a from h1)
      cases (show b = [] from h2)
      cases (show c = [] from h3)
      exact .nil
    | h1 ls l ih =>
      obtain ⟨h1, h2, h3, h4⟩ := h
      obtain ⟨r, hr, rfl, e2, hw⟩ := Wk.last_ h1
      have h5 : ¬ shw m ls := fun z => h4 (shw_snoc.mpr (.inl z))
      have h6 : doneM m (begM m (stM m ls) r.1) = false := Bool.eq_false_iff.mpr fun z => h4 (shw_snoc.mpr (.inr z))
      have pt := ih (x := (r.2.1, stM m ls, ws.filter fun o => decide (o ∈ ls))) ⟨hw, rfl, rfl, h5⟩
      have e : x = sgGo m ws (r.2.1, stM m ls, ws.filter fun o => decide (o ∈ ls)) r := by
        refine Prod.ext e2.symm (Prod.ext ?_ ?_)
        · rw [h2, stM_snoc]
          rfl
        · rw [h3]
          exact (es1 ls r.1).symm
      rw [e]
      exact Pt.snoc pt (e := (r.1, sgGo m ws _ r)) (List.mem_map.mpr ⟨r, List.mem_filter.mpr ⟨List.mem_filter.mpr ⟨hr, decide_eq_true rfl⟩, by rw [h6]; rfl⟩, rfl⟩)
/-- a run that takes all wanted lanes and does not show the pattern -/
def GoodRun (es : List Ln) (st : Str) (gs ws : List Str) (m : Mc) (ls : List Str) : Prop := (∃ q ∈ gs, Wk es st ls q) ∧ (∀ w ∈ ws, w ∈ ls) ∧ m.op = false ∧ ¬ shw m ls
/-- what the search tells -/
def ShR (es : List Ln) (st : Str) (gs ws : List Str) (m : Mc) : Option (List Str) → Prop
  | some ls => GoodRun es st gs ws m ls ∧ ∀ ls', GoodRun es st gs ws m ls' → ls.length ≤ ls'.length
  | none => ∀ ls', ¬ GoodRun es st gs ws m ls'
/-- a standing at which a run may end -/
def sgEnd (gs ws : List Str) (m : Mc) (x : Sg) : Prop := x.1 ∈ gs ∧ x.2.2.length = ws.length ∧ m.op = false
theorem good_pt {es : List Ln} {m : Mc} {gs ws : List Str} {st : Str} {ls : List Str} : GoodRun es st gs ws m ls ↔ ∃ x, Pt (sgSc es m ws) (st, [], []) ls x ∧ sgEnd gs ws m x := by
  have all : (ws.filter fun o => decide (o ∈ ls)).length = ws.length ↔ ∀ w ∈ ws, w ∈ ls := by
    rw [List.length_filter_eq_length_iff]
    simp
  constructor
  · rintro ⟨⟨q, hq, hw⟩, h1, h2, h3⟩
    exact ⟨(q, stM m ls, ws.filter fun o => decide (o ∈ ls)), sg_pt.mpr ⟨hw, rfl, rfl, h3⟩, hq, all.mpr h1, h2⟩
  · rintro ⟨x, hp, hx, hl, ho⟩
    obtain ⟨h1, h2, h3, h4⟩ := sg_pt.mp hp
    rw [h3] at hl
    exact ⟨⟨x.1, hx, h1⟩, all.mp hl, ho, h4⟩
/-- what stands in the search: runs by standings, each in a list of its own -/
def sgQ (qs : List (Sg × List Str)) : List D := qs.map fun q => nkD (sgK q.1)
def sgR (qs : List (Sg × List Str)) (as : List Addr) : List (NestedKey × D) := (qs.zip as).map fun q => (sgK q.1.1, .adr q.2)
def sgC (qs : List (Sg × List Str)) (as : List Addr) : Cells := (qs.zip as).map fun q => (q.2, .lst (stD q.1.2))
theorem zip_snoc {α β : Type} {xs : List α} {ys : List β} (h : xs.length = ys.length) (x : α) (y : β) : (xs ++ [x]).zip (ys ++ [y]) = xs.zip ys ++ [(x, y)] := by
  rw [List.zip_append h]
  rfl
theorem sgR_has {qs : List (Sg × List Str)} {as : List Addr} (hl : qs.length = as.length) {x : Sg} : hasT (sgR qs as) (sgK x) = decide (x ∈ qs.map (·.1)) := by
  rw [Bool.eq_iff_iff, decide_eq_true_eq]
  unfold hasT sgR
  rw [List.any_eq_true]
  constructor
  · rintro ⟨p, hp, e⟩
    obtain ⟨q, hq, rfl⟩ := List.mem_map.mp hp
    rw [decide_eq_true_eq] at e
    rw [← sgK_inj e]
    exact List.mem_map.mpr ⟨q.1, (List.of_mem_zip (a := q.1) (b := q.2) hq).1, rfl⟩
  · intro h
    obtain ⟨q, hq, rfl⟩ := List.mem_map.mp h
    obtain ⟨i, hi⟩ := List.getElem?_of_mem hq
    have hi2 := (List.getElem?_eq_some_iff.mp hi).1
    obtain ⟨a, ha⟩ : ∃ a, as[i]? = some a := ⟨_, List.getElem?_eq_getElem (hl ▸ hi2)⟩
    refine ⟨(sgK q.1, .adr a), List.mem_map.mpr ⟨(q, a), List.mem_of_getElem? (i := i) ?_, rfl⟩, decide_eq_true rfl⟩
    rw [List.getElem?_zip_eq_some]
    exact ⟨hi, ha⟩
theorem sgR_get {qs : List (Sg × List Str)} (hn : (qs.map (·.1)).Nodup) {as : List Addr} {i : Nat} {q : Sg × List Str} {a : Addr} (hq : qs[i]? = some q) (ha : as[i]? = some a) : getT (sgR qs as) (sgK q.1) = some (.adr a) := by
  induction qs generalizing as i with
  | nil => cases hq
  | cons p qs ih =>
    cases as with
    | nil => cases ha
    | cons b as =>
      have hn2 := List.nodup_cons.mp hn
      unfold getT sgR
      rw [List.zip_cons_cons, List.map_cons, List.find?_cons]
      cases i with
      | zero =>
        cases hq
        cases ha
        rw [decide_eq_true rfl]
        rfl
      | succ i =>
        have hm : q.1 ∈ qs.map (·.1) := List.mem_map.mpr ⟨q, List.mem_of_getElem? (by simpa using hq), rfl⟩
        have hm2 : ¬ sgK p.1 = sgK q.1 := fun z => hn2.1 (by rw [show (fun x : Sg × List Str => x.1) p = q.1 from sgK_inj z]; exact hm)
        rw [show decide (sgK p.1 = sgK q.1) = false from decide_eq_false hm2]
        exact ih hn2.2 (by simpa using hq) (by simpa using ha)
theorem has_get {κ α : Type} [DecidableEq κ] {kvs : List (κ × α)} {k : κ} : (getT kvs k).isSome = hasT kvs k := by
  unfold getT hasT
  rw [Option.isSome_map, Bool.eq_iff_iff, List.find?_isSome, List.any_eq_true]
def ct_shortest_run (K : PySem.W.Frag) : Ct := Ct3 fun a b c ka out => ∃ ps es st gs ws m, a = .val (CrsD K ps es st gs) ∧ b = .val (.tup (stD ws)) ∧ c = .val (McD K m) ∧ st ∈ ps ∧ (∀ r ∈ es, r.2.2 ∈ ps) ∧ (lnN es).Nodup ∧ es.length ≤ 1000 ∧ gs.length ≤ 1000 ∧ ws.length ≤ 1000 ∧ Fits m ∧ ps.length * (2 ^ m.at_.length * 2 ^ ws.length) ≤ 90000 ∧ ka = [] ∧
  out = fun o k => (∃ ls a, o = .ret (.adr a) ∧ k = [(a, .lst (stD ls))] ∧ ShR es st gs ws m (some ls)) ∨ (o = .ret .non ∧ k = [] ∧ ShR es st gs ws m none)
section
variable {P : Program} {w : World} {K : PySem.W.Frag} {mg : Str → Option Value} {base : Heap}
theorem ok_shortest_run (T : Tx K mg) (F_Machine_begun : Fn P w K mg base 6 (He.ma K (He.ga K "Machine") "begun") ["self", "places", "lane"] (ct_Machine_begun K)) (F_Machine_is_done : Fn P w K mg base 4 (He.ma K (He.ga K "Machine") "is_done") ["self", "places"] (ct_Machine_is_done K)) (F_Net_end_of : Fn P w K mg base 4 (He.ma K (He.ga K "Net") "end_of") ["self", "lane"] (ct_Net_end_of K)) (F_Net_out_of : Fn P w K mg base 4 (He.ma K (He.ga K "Net") "out_of") ["self", "post"] (ct_Net_out_of K)) : Fn P w K mg base 8 (He.ga K "shortest_run") ["course", "wanted", "machine"] (ct_shortest_run K) := by
  obtain ⟨fd, F⟩ := T.d_shortest_run
  refine fn_ok F sc_shortest_run (fun _ _ _ _ _ _ us hl => match us, hl with | [_, _, _], _ => rfl) ct3_len (fun cdv A outer s H E hr => ⟨_, (pss_cons (ps_set (i := 3) sc_shortest_run.nd rfl (by first | exact Or.inl rfl | exact Or.inr rfl) (pe_tup (pa_cons (pe_fld (pv 0) rfl) (pa_cons (pe_tup pa_nil) (pa_cons (pe_tup pa_nil) pa_nil)))))
      (pss_cons (ps_set (i := 4) sc_shortest_run.nd rfl (by first | exact Or.inl rfl | exact Or.inr rfl) (pe_none1 (hu16 hr) (pv 3) (pe_lst pa_nil)))
      (pss_cons (ps_set (i := 5) sc_shortest_run.nd rfl (by first | exact Or.inl rfl | exact Or.inr rfl) (pe_lst (pa_cons (pv 3) pa_nil)))
      (pss_cons (ps_set (i := 6) sc_shortest_run.nd rfl (by first | exact Or.inl rfl | exact Or.inr rfl) pe_int)
      (pss_cons (ps_while (passes_of rfl) (pt_cmpR op_lt (pv 6) (pe_callB call_lenU rfl T.n_len (by decide +kernel) (pa_cons (pv 5) pa_nil)) (nomark _)) (pss_cons (ps_asg (pe_ix ix_seq (pv 5) (pv 6) fun _ _ => rfl) (pg_tup rfl (pgs_cons (pg_name (i := 7) sc_shortest_run.nd rfl (by first | exact Or.inl rfl | exact Or.inr rfl)) (pgs_cons (pg_name (i := 8) sc_shortest_run.nd rfl (by first | exact Or.inl rfl | exact Or.inr rfl)) (pgs_cons (pg_name (i := 9) sc_shortest_run.nd rfl (by first | exact Or.inl rfl | exact Or.inr rfl)) pgs_nil)))))
      (pss_cons (ps_if (PW.pt (pw_and (pt_cmpR op_inU (pv 7) (pe_fld (pv 0) rfl) (by with_unfolding_all rfl)) (pw_and (pt_cmpR (op_eqP (by have := (hr).units; exact this)) (pe_callB call_lenU rfl T.n_len (by decide +kernel) (pa_cons (pv 9) pa_nil)) (pe_callB call_lenU rfl T.n_len (by decide +kernel) (pa_cons (pv 1) pa_nil)) (nomark _)) (pw_and1 (pt_not (pt_val (pe_fld (pv 2) rfl)))))))
      (pss_one (ps_ret (pe_nget (hu16 hr) (pv 4) (pe_ix ix_seq (pv 5) (pv 6) fun _ _ => rfl) fun _ _ => rfl)))
      pss_nil)
      (pss_cons (ps_for (passes_of rfl) rfl (pi_seq (pe_meth (pe_fld (pv 0) rfl) T.cl_Net T.me_Net_out_of (F_Net_out_of.up (by decide)).ok hr (F_Net_out_of.up (by decide)).bn .nil (pass_own rfl rfl rfl rfl) (pa_cons (pv 7) pa_nil))) (pg_name (i := 10) sc_shortest_run.nd rfl (by first | exact Or.inl rfl | exact Or.inr rfl)) (pss_cons (ps_set (i := 11) sc_shortest_run.nd rfl (by first | exact Or.inl rfl | exact Or.inr rfl) (pe_meth (pv 2) T.cl_Machine T.me_Machine_begun (F_Machine_begun.up (by decide)).ok hr (F_Machine_begun.up (by decide)).bn .nil (pass_own rfl rfl rfl rfl) (pa_cons (pv 8) (pa_cons (pv 10) pa_nil))))
      (pss_cons (ps_set (i := 13) sc_shortest_run.nd rfl (by first | exact Or.inl rfl | exact Or.inr rfl) (pe_callTy call_tupU rfl T.n_tuple (by decide +kernel) (pa_cons (pe_lc (te := (tVar 12)) (tt := (tOr (tTest (tOp (rInU K) (tVar 12) (tVar 9))) (tTest (tOp (rEqP K false) (tVar 12) (tVar 10))))) (own := [("one", 12)]) rfl sc_shortest_run.nd (pi_seq (pv 1)) (blk_ok ["course", "wanted", "machine", "start", "runs", "queue", "at", "post", "places", "done", "lane", "later", "one", "more", "standing"] (defScope s_shortest_run) rfl rfl (by decide +kernel)) (fun _ _ _ _ _ => (pg_name (i := 12) sc_shortest_run.nd rfl (by first | exact Or.inl rfl | exact Or.inr rfl))) (fun _ _ _ _ _ => (pts_one (PW.pt (pw_or (pt_cmpR op_inU (pv 12) (pv 9) (by with_unfolding_all rfl)) (pw_or1 (pt_cmpR (op_eqP (by have := (hr).units; exact this)) (pv 12) (pv 10) (nomark _))))))) (fun _ _ _ _ _ => (pv 12))) pa_nil)))
      (pss_cons (ps_set (i := 14) sc_shortest_run.nd rfl (by first | exact Or.inl rfl | exact Or.inr rfl) (pe_tup (pa_cons (pe_meth (pe_fld (pv 0) rfl) T.cl_Net T.me_Net_end_of (F_Net_end_of.up (by decide)).ok hr (F_Net_end_of.up (by decide)).bn .nil (pass_own rfl rfl rfl rfl) (pa_cons (pv 10) pa_nil)) (pa_cons (pv 11) (pa_cons (pv 13) pa_nil)))))
      (pss_one (ps_if (PW.pt (pw_and (pt_not (pt_val (pe_meth (pv 2) T.cl_Machine T.me_Machine_is_done (F_Machine_is_done.up (by decide)).ok hr (F_Machine_is_done.up (by decide)).bn .nil (pass_own rfl rfl rfl rfl) (pa_cons (pv 11) pa_nil)))) (pw_and1 (pt_cmp (pc_nnot (hu16 hr) (pv 14) (pv 4)) (by with_unfolding_all rfl)))))
      (pss_cons (ps_nput (hu16 hr) (pv 4) (pv 14) (pe_op op_addU (pe_nget (hu16 hr) (pv 4) (pe_ix ix_seq (pv 5) (pv 6) fun _ _ => rfl) fun _ _ => rfl) (pe_lst (pa_cons (pv 10) pa_nil))) rfl)
      (pss_one (ps_expr (pe_bm PySem.F.plainAttrs_list PySem.F.slot_list_append PySem.F.type_list_append mt_append (pv 5) (pa_cons (pv 14) pa_nil)))))
      pss_nil))))))
      (pss_one (ps_aug (i := 6) sc_shortest_run.nd rfl (by first | exact Or.inl rfl | exact Or.inr rfl) pe_int ip_add))))))
      (pss_one (ps_ret pe_non))))))), fun ws ka out B F0 Q hC hR hX => ?_⟩)
  obtain ⟨a, b, c, rfl, ps, es, st, gs, ws, m, rfl, rfl, rfl, hst, hes, hn, hel, hgl, hwl, fm, big, rfl, rfl⟩ := hC
  have cC := T.cl_Course
  have cM := T.cl_Machine
  have fa := fm.a
  have aln := sgAll_len ps m ws
  have hN := sgSc_in (m := m) (ws := ws) hes
  have h0 : ((st, [], []) : Sg) ∈ sgAll ps m ws := sgAll_mem.mpr ⟨hst, nil_subs _, nil_subs _⟩
  refine q_asg (w := .val (nkD (sgK (st, [], [])))) ((ev_tup (ds := [.str st, .tup [], .tup []]) (ea3 (ev_fld (ev_var rfl) .v cC T.na_Course_start rfl) (ev_tup (ds := []) ea_nil (show 0 ≤ 100000 by decide)) (ev_tup (ds := []) ea_nil (show 0 ≤ 100000 by decide))) (show 3 ≤ 100000 by decide)).to (by rw [sgK_D]; rfl)) ?_
  refine q_asgR (evr_noneN (ks := [.text st, nmK [], txK []]) (fun p => ev_var rfl) (fun p => evn_lst (ds := []) ea_nil (show 0 ≤ 100000 by decide)) (sgK_dep (st, [], []))) ?_
  rintro _ _ ⟨p, c0, rfl, rfl⟩
  refine q_asgN (evn_lst (ds := [nkD (sgK (st, [], []))]) (ea1 (ev_var rfl)) (show 1 ≤ 100000 by decide)) (fun q => ?_)
  refine Gp.perm (k1 := [(p, .din w (sgR [((st, [], []), [])] [c0])), (q, .lst (sgQ [((st, [], []), [])]))] ++ sgC [((st, [], []), [])] [c0]) ?_ (List.Perm.cons _ (List.Perm.swap _ _ _))
  refine q_asg (ev_int (i := 0)) ?_
  refine q_while (fun mm ro ka => ∃ (n : Nat) (qs : List (Sg × List Str)) (as : List Addr) (v7 v8 v9 v10 v11 v12 v13 v14 : Option W), ro = [some (.val (CrsD K ps es st gs)), some (.val (.tup (stD ws))), some (.val (McD K m)), some (.val (nkD (sgK (st, [], [])))), some (.val (.adr p)), some (.val (.adr q)), some (.val (.int (n : Int))), v7, v8, v9, v10, v11, v12, v13, v14] ∧
      ka = [(p, .din w (sgR qs as)), (q, .lst (sgQ qs))] ++ sgC qs as ∧ qs.length = as.length ∧ BIn (sgSc es m ws) (st, [], []) n [] qs ∧ (∀ (i : Nat) (c : Sg × List Str), i < n → qs[i]? = some c → ¬ sgEnd gs ws m c.1) ∧ mm = (sgAll ps m ws).length - n)
    ((sgAll ps m ws).length - 0) ⟨0, _, [c0], none, none, none, none, none, none, none, none, rfl, rfl, rfl, BIn.start _ _, fun i c h => by omega, rfl⟩ (fun mm ro2 ka2 ⟨n, qs, as, v7, v8, v9, v10, v11, v12, v13, v14, e1, e2, hl, b, no, hm⟩ => ?_)
  subst e1 e2
  have few := b.few h0 hN
  refine ⟨decide ((n : Int) < (((sgQ qs).length : Nat) : Int)), _, et_test (ev_lt (ev_var rfl) (ev_len (ev_var rfl) (.ce 1 rfl))), fun hb => ?_, fun hb => ?_⟩
  · unfold sgQ at hb
    rw [decide_eq_true_eq, List.length_map] at hb
    have hlt : n < qs.length := by omega
    obtain ⟨c, hc⟩ : ∃ c, qs[n]? = some c := ⟨_, List.getElem?_eq_getElem hlt⟩
    obtain ⟨l, hla⟩ : ∃ l, as[n]? = some l := ⟨_, List.getElem?_eq_getElem (hl ▸ hlt)⟩
    have hcm := List.mem_of_getElem? hc
    have hcN : c.1 ∈ sgAll ps m ws := by
      have pt := b.pt c hcm
      generalize c.1 = v at pt
      generalize c.2 = ls at pt
      induction pt with
      | nil => exact h0
      | snoc _ he ih => exact hN _ ih _ he
    obtain ⟨hcp, hcs, hct⟩ := sgAll_mem.mp hcN
    have hcl := subs_short _ _ hcs
    rw [List.length_range] at hcl
    have hcl2 := subs_short _ _ hct
    have atq : ∀ {qs : List (Sg × List Str)}, qs[n]? = some c → atI (sgQ qs) (n : Int) = some (nkD (sgK c.1)) := fun {qs} h => atI_nat (by unfold sgQ; rw [List.getElem?_map, h]; rfl)
    refine q_asgT (w := .val (.tup [.str c.1.1, .tup (nmD c.1.2.1), .tup (stD c.1.2.2)])) ((ev_ixV (ev_var rfl) (ev_var rfl) (.ce 1 rfl) (atq hc)).to (by rw [sgK_D])) at_t3 ?_
    refine q_when (b := decide (c.1.1 ∈ gs) && (((c.1.2.2.length : Nat) : Int) == ((ws.length : Nat) : Int) && !m.op)) (et_and (et_test (ev_inL (ev_var rfl) (ev_fld (ev_var rfl) .v cC T.na_Course_ends rfl) .vt)) fun _ => et_and ((et_test (ev_eqI (ev_len (ev_var rfl) .vt) (ev_len (ev_var rfl) .vt))).to (by rw [stD_len, stD_len])) fun _ => et_not (et_B (ev_fld (ev_var rfl) .v cM T.na_Machine_is_optional rfl))) (fun hb2 => ?_) (fun hb2 => ?_)
    · rw [Bool.and_eq_true, Bool.and_eq_true, decide_eq_true_eq, beq_iff_eq, Bool.not_eq_true'] at hb2
      obtain ⟨g1, g2, g3⟩ := hb2
      have hend : sgEnd gs ws m c.1 := ⟨g1, by omega, g3⟩
      have mem : (l, Nd.lst (stD c.2)) ∈ sgC qs as := List.mem_map.mpr ⟨(c, l), List.mem_of_getElem? (i := n) (List.getElem?_zip_eq_some.mpr ⟨hc, hla⟩), rfl⟩
      refine g_ret hR (d := .adr l) ((ev_ngetV (ev_var rfl) (ev_ixV (ev_var rfl) (ev_var rfl) (.ce 1 rfl) (atq hc)) (.ce 0 rfl) (sgK_dep c.1) (sgR_get b.nd hc hla)).less (k2 := [(l, .lst (stD c.2))]) (List.singleton_sublist.mpr (List.mem_append_right _ mem))) (.inl ⟨c.2, l, rfl, rfl, good_pt.mpr ⟨c.1, b.pt c hcm, hend⟩, fun ls' h => ?_⟩)
      obtain ⟨x, hp, hx⟩ := good_pt.mp h
      exact b.least (G := sgEnd gs ws m) no hc hp hx
    have nend : ¬ sgEnd gs ws m c.1 := fun ⟨g1, g2, g3⟩ => by
      rw [decide_eq_true g1, g2, g3] at hb2
      simp at hb2
    have R := es.filter fun r => decide (r.2.1 = c.1.1)
    refine q_forn (ei_strsL (ss := outL es c.1.1) (ev_methP (d := .tup (stD (outL es c.1.1))) (ev_fld (ev_var rfl) .v cC T.na_Course_base rfl) .v rfl (ea1 (ev_var rfl)) ⟨_, _, rfl, ps, es, c.1.1, rfl, rfl, hn, by omega, rfl, by rw [if_pos hcp]⟩) .vt)
      (fun i ro ka => ∃ (qs : List (Sg × List Str)) (as : List Addr) (v10 v11 v12 v13 v14 : Option W), ro = [some (.val (CrsD K ps es st gs)), some (.val (.tup (stD ws))), some (.val (McD K m)), some (.val (nkD (sgK (st, [], [])))), some (.val (.adr p)), some (.val (.adr q)), some (.val (.int (n : Int))), some (.val (.str c.1.1)), some (.val (.tup (nmD c.1.2.1))), some (.val (.tup (stD c.1.2.2))), v10, v11, v12, v13, v14] ∧
        ka = [(p, .din w (sgR qs as)), (q, .lst (sgQ qs))] ++ sgC qs as ∧ qs.length = as.length ∧ BIn (sgSc es m ws) (st, [], []) n (((((es.filter fun r => decide (r.2.1 = c.1.1)).take i).filter fun r => !doneM m (begM m c.1.2.1 r.1))).map fun r => (r.1, sgGo m ws c.1 r)) qs ∧ (∀ (i : Nat) (c : Sg × List Str), i < n → qs[i]? = some c → ¬ sgEnd gs ws m c.1) ∧ qs[n]? = some c ∧ as[n]? = some l)
      ⟨qs, as, _, _, _, _, _, rfl, rfl, hl, b, no, hc, hla⟩ (fun i ro ka _ => trivial) (fun i x ro2 ka2 ta' hx ⟨qs, as, v10, v11, v12, v13, v14, e1, e2, hl, b, no, hc, hla⟩ => ?_) (fun ro2 ka2 ta' ⟨qs, as, v10, v11, v12, v13, v14, e1, e2, hl, b, no, hc, hla⟩ hta => ?_)
    · subst e1 e2
      unfold outL lnN at hx
      rw [List.map_map, List.getElem?_map] at hx
      obtain ⟨r, hr, rfl⟩ := Option.map_eq_some_iff.mp hx
      obtain ⟨hrm, hrp⟩ := List.mem_filter.mp (List.mem_of_getElem? hr)
      rw [decide_eq_true_eq] at hrp
      have hlt2 : n < qs.length := (List.getElem?_eq_some_iff.mp hc).1
      have few2 := b.few h0 hN
      have hbl := begM_len m c.1.2.1 r.1
      rw [flt_snoc (f := fun r => !doneM m (begM m c.1.2.1 r.1)) hr, List.map_append]
      refine q_asg (w := .val (.tup (nmD (begM m c.1.2.1 r.1)))) (ev_methP (ev_var rfl) .v rfl (ea2 (ev_var rfl) (ev_var rfl)) ⟨_, _, _, rfl, m, c.1.2.1, r.1, rfl, rfl, rfl, fm, by omega, rfl, rfl⟩) ?_
      refine q_asg (w := .val (.tup (stD (ws.filter fun o => decide (o ∈ c.1.2.2) || decide (o = r.1))))) (ev_cb (ea1 (evn_filt (xs := ws) (g := fun s => W.val (.str s)) (f := fun s => D.str s) (p := fun o => decide (o ∈ c.1.2.2) || decide (o = r.1)) (ei_strsL (ev_var rfl) .vt) (by decide) (by omega) ⟨trivial, fun _ => trivial⟩ (fun o ho => et_or (et_test (ev_inL (ev_var rfl) (ev_var rfl) .vt)) fun _ => (et_test (ev_eqS (ev_var rfl) (ev_var rfl))).to (by rw [Bool.eq_iff_iff, beq_iff_eq, decide_eq_true_eq])) (fun o ho _ => ev_var rfl)).lst) (rc_tupL .vl (.inl rfl))) ?_
      refine q_asg (w := .val (nkD (sgK (sgGo m ws c.1 r)))) ((ev_tup (ds := [.str r.2.2, .tup (nmD (begM m c.1.2.1 r.1)), .tup (stD (ws.filter fun o => decide (o ∈ c.1.2.2) || decide (o = r.1)))]) (ea3 (ev_methP (d := .str r.2.2) (ev_fld (ev_var rfl) .v cC T.na_Course_base rfl) .v rfl (ea1 (ev_var rfl)) ⟨_, _, rfl, ps, es, r.1, ⟨.inl rfl⟩, rfl, hn, .inl ⟨r, hrm, rfl, rfl⟩⟩) (ev_var rfl) (ev_var rfl)) (show 3 ≤ 100000 by decide)).to (by rw [sgK_D]; rfl)) ?_
      refine g_if (b := !doneM m (begM m c.1.2.1 r.1) && !hasT (sgR qs as) (sgK (sgGo m ws c.1 r))) (et_and (et_not (et_B (ev_methP (d := .bl (doneM m (begM m c.1.2.1 r.1))) (ev_var rfl) .v rfl (ea1 (ev_var rfl)) ⟨_, _, rfl, m, _, rfl, rfl, by omega, rfl, rfl⟩))) fun _ => (et_test (ev_nni (ks := [.text r.2.2, nmK (begM m c.1.2.1 r.1), txK (ws.filter fun o => decide (o ∈ c.1.2.2) || decide (o = r.1))]) (ev_var rfl) (ev_var rfl) (.ce 0 rfl) (sgK_dep (sgGo m ws c.1 r)))).to (by rw [has_get]; rfl)) (fun hb2 => ?_) (fun hb2 => ?_)
      · rw [Bool.and_eq_true, Bool.not_eq_true', Bool.not_eq_true', sgR_has hl, decide_eq_false_iff_not] at hb2
        obtain ⟨nd, new⟩ := hb2
        have hcl3 := b.at_len hc
        rw [nd, Bool.not_false, if_pos rfl]
        have he : (r.1, sgGo m ws c.1 r) ∈ sgSc es m ws c.1 := List.mem_map.mpr ⟨r, List.mem_filter.mpr ⟨List.mem_filter.mpr ⟨hrm, decide_eq_true hrp⟩, by rw [nd]; rfl⟩, rfl⟩
        have b2 := b.new hc he new
        have few3 := b2.few h0 hN
        rw [List.length_append, List.length_singleton] at few3
        have hz2 : (sgR qs as).length ≤ qs.length := by
          unfold sgR
          rw [List.length_map, List.length_zip]
          exact Nat.min_le_left _ _
        have cell : ∀ kr : Cells, ([(p, Nd.din w (sgR qs as)), (q, .lst (sgQ qs))] ++ sgC qs as ++ kr)[n + 2]? = some (l, .lst (stD c.2)) := fun kr => by
          have e1 : (sgC qs as)[n]? = some (l, .lst (stD c.2)) := by
            unfold sgC
            rw [List.getElem?_map, (List.getElem?_zip_eq_some (z := (c, l))).mpr ⟨hc, hla⟩]
            rfl
          show (sgC qs as ++ kr)[n]? = _
          rw [List.getElem?_append_left (List.getElem?_eq_some_iff.mp e1).1]
          exact e1
        have cell0 := cell []
        rw [List.append_nil] at cell0
        refine q_nputN (j := 0) (ks := [.text r.2.2, nmK (begM m c.1.2.1 r.1), txK (ws.filter fun o => decide (o ∈ c.1.2.2) || decide (o = r.1))]) (n := .lst (stD c.2 ++ [.str r.1])) (evn_op (ev_ngetV (d := .adr l) (ev_var rfl) (ev_ixV (ev_var rfl) (ev_var rfl) (.ce 1 rfl) (atq hc)) (.ce 0 rfl) (sgK_dep c.1) (sgR_get b.nd hc hla)) (evn_lst (ds := [.str r.1]) (ea1 (ev_var rfl)) (show 1 ≤ 100000 by decide)).lst (rvn_cat (b1 := false) (b2 := false) (.ce (n + 2) cell0) .vl (by rw [stD_len, List.length_singleton]; omega)))
          (fun c' => ev_var rfl) (fun c' => ev_var rfl) (fun c' => rfl) (sgK_dep (sgGo m ws c.1 r)) (by omega) (fun c' => ?_)
        refine g_app (j0 := 1) (j := 1) (d := nkD (sgK (sgGo m ws c.1 r))) (ev_var rfl) rfl (ev_var rfl) rfl (by unfold sgQ; rw [List.length_map]; omega) (g_jp ⟨qs ++ [(sgGo m ws c.1 r, c.2 ++ [r.1])], as ++ [c'], _, _, _, _, _, rfl, ?_, by rw [List.length_append, List.length_append, hl]; rfl, b2, fun i d hi hd => no i d hi (by rwa [List.getElem?_append_left (by omega)] at hd), by rw [List.getElem?_append_left hlt2]; exact hc, by rw [List.getElem?_append_left (by omega)]; exact hla⟩)
        have eR : putT (sgR qs as) (sgK (sgGo m ws c.1 r)) (.adr c') = sgR (qs ++ [(sgGo m ws c.1 r, c.2 ++ [r.1])]) (as ++ [c']) := by
          unfold putT
          rw [sgR_has hl, if_neg (by simpa using new)]
          unfold sgR
          rw [zip_snoc hl, List.map_append]
          rfl
        have eQ : sgQ qs ++ [nkD (sgK (sgGo m ws c.1 r))] = sgQ (qs ++ [(sgGo m ws c.1 r, c.2 ++ [r.1])]) := by
          unfold sgQ
          rw [List.map_append]
          rfl
        have eC : sgC qs as ++ [(c', .lst (stD c.2 ++ [.str r.1]))] = sgC (qs ++ [(sgGo m ws c.1 r, c.2 ++ [r.1])]) (as ++ [c']) := by
          unfold sgC
          rw [zip_snoc hl, List.map_append, List.map_cons, List.map_nil, ← stD_app]
          rfl
        rw [← eR, ← eQ, ← eC]
        rfl
      · have skip : ∀ E : List (Str × Sg), (∀ e ∈ E, e.2 ∈ qs.map (·.1)) → BIn (sgSc es m ws) (st, [], []) n (((((es.filter fun r => decide (r.2.1 = c.1.1)).take i).filter fun r => !doneM m (begM m c.1.2.1 r.1))).map (fun r => (r.1, sgGo m ws c.1 r)) ++ E) qs := fun E hE => by
          induction E using row_ind with
          | h0 => rw [List.append_nil]; exact b
          | h1 xs x ih =>
            rw [← List.append_assoc]
            exact (ih fun e he => hE e (List.mem_append_left _ he)).old (hE x (List.mem_append_right _ (List.mem_singleton.mpr rfl)))
        refine g_next (g_jp ⟨qs, as, _, _, _, _, _, rfl, rfl, hl, skip _ fun e he => ?_, no, hc, hla⟩)
        cases nd : doneM m (begM m c.1.2.1 r.1) with
        | true =>
          rw [nd] at he
          cases he
        | false =>
          rw [nd] at he hb2
          rw [Bool.not_false, if_pos rfl] at he
          rw [Bool.not_false, Bool.true_and, Bool.not_eq_false', sgR_has hl, decide_eq_true_eq] at hb2
          rw [List.mem_singleton.mp he]
          exact hb2
    · subst e1 e2
      have hlt2 : n < qs.length := (List.getElem?_eq_some_iff.mp hc).1
      have few2 := b.few h0 hN
      have el : (List.map (fun s => W.val (D.str s)) (outL es c.1.1)).length = (es.filter fun r => decide (r.2.1 = c.1.1)).length := by
        unfold outL lnN
        rw [List.length_map, List.length_map]
      rw [el, List.take_length] at b
      refine g_augI (z := ((n + 1 : Nat) : Int)) rfl ev_int (fun H Q q => ⟨_, _, rfl, rfl, by push_cast at q ⊢; exact q⟩) (g_jpH hta ⟨(sgAll ps m ws).length - (n + 1), by omega, n + 1, qs, as, _, _, _, _, _, _, _, _, rfl, rfl, hl, b.next (fun c' hc' e he => ?_) hlt2, fun i d hi hd => ?_, rfl⟩)
      · rw [hc] at hc'
        cases hc'
        exact he
      · rcases Nat.lt_or_ge i n with h | h
        · exact no i d h hd
        · have : i = n := by omega
          subst this
          rw [hc] at hd
          cases hd
          exact nend
  · unfold sgQ at hb
    rw [decide_eq_false_iff_not, List.length_map] at hb
    refine g_ret hR (d := .non) (ev_non.less (List.nil_sublist _)) (.inr ⟨rfl, rfl, fun ls' h => ?_⟩)
    obtain ⟨x, hp, hx⟩ := good_pt.mp h
    obtain ⟨d, hd, e⟩ := List.mem_map.mp (b.all (by omega) hp)
    obtain ⟨i, hi⟩ := List.getElem?_of_mem hd
    have := (List.getElem?_eq_some_iff.mp hi).1
    exact no i d (by omega) hi (e ▸ hx)
end
/-- asking about lanes, then the rest -/
noncomputable def cuThen (K : PySem.W.Frag) (es : List Ln) (st : Str) (gs ws : List Str) (P : Oc) : Oc := match ws.find? (fun x => !decide (x ∈ lnN es)) with
  | some x => Xt (He.ga K "NoLane") [("name", .str x)] []
  | none => match ws.find? (fun x => !decide (x ∈ usedL es st gs)) with
    | some x => Xt (He.ga K "NoRun") [("name", .str x)] []
    | none => P
/-- how the search ends -/
def ShO (es : List Ln) (st : Str) (gs ws : List Str) (m : Mc) : Oc := fun o k => (∃ ls a, o = .ret (.adr a) ∧ k = [(a, .lst (stD ls))] ∧ ShR es st gs ws m (some ls)) ∨ (o = .ret .non ∧ k = [] ∧ ShR es st gs ws m none)
theorem q_asgP0 {K : PySem.W.Frag} {B F0 : Hp} {ta : List (V × W)} {ro : Ro} {ka k2 : Cells} {te : TE} {u : TS} {De : Ends} {g : TG} {out : Oc} {E : XK} {C1 : Addr} (hX : RxOk K B F0 out E) (h : EvX0 K te ro ka E C1 k2) (o : out (.exc0 C1) k2) : Gp K B F0 ta (tSeq (tAsg te g) u De) ro ka := fun sg H e => h B F0 ta sg H _ e fun H' e' => hX.2 C1 k2 H' o e'.leaveX
/-- the same, of at most n atoms -/
def MoRn (K : PySem.W.Frag) (n : Nat) (a : W) (P : Tr → Oc) (out : Oc) : Prop :=
  (∃ t ds, Lk [] a t ds false ∧ ds.length ≤ 8 ∧ ds.length ≤ n ∧ (∀ d ∈ ds, nmOk d) ∧ out = apOut K P ds) ∨ (∃ u : Tr, a = .val (PaD K (u.d false)) ∧ u.dep < 8 ∧ u.sm ∧ u.ats ≤ 10 ∧ u.ats ≤ n ∧ out = P u)
/-- x = machine_of(..) -/
theorem q_moN {K : PySem.W.Frag} {B F0 : Hp} {ta : List (V × W)} {ro : Ro} {u : TS} {De : Ends} {P : Tr → Oc} {c : W} {out : Oc} {E : XK} {i n : Nat} {te : TE} {tr : TA} (mo : MoRn K n c P out) (hX : RxOk K B F0 out E) (ha : EvA K tr ro [] [c] [])
    (hx : ∀ C1 gs k, EvX K (tCall (spC K (ct_machine_of K)) [] E tr) ro [] E C1 gs k → EvX K te ro [] E C1 gs k) (hx0 : ∀ C1 k, EvX0 K (tCall (spC K (ct_machine_of K)) [] E tr) ro [] E C1 k → EvX0 K te ro [] E C1 k) (hd0 : ∀ d, EvD K (tCall (spC K (ct_machine_of K)) [] E tr) ro [] (.val d) [] → EvD K te ro [] (.val d) [])
    (k : ∀ v : Tr, v.sm → v.ats ≤ 10 → v.ats ≤ n → out = P v → Gp K B F0 ta (u De) (ro.set i (some (.val (McD K (mcT v 0))))) []) : Gp K B F0 ta (tSeq (tAsg te (gName i)) u De) ro [] := by
  rcases mo with ⟨t, ds, l, hz, hzn, hd, rfl⟩ | ⟨v, rfl, hd, sm, hv, hvn, rfl⟩
  · match ds, l, hz, hzn, hd, hX, k with
    | [], l, hz, hzn, hd, hX, _ => exact q_asgP0 hX (hx0 _ _ (evx0_call (k2 := []) (kr := []) (k3 := []) ha ⟨_, rfl, .inl ⟨t, [], l, hz, hd, rfl⟩, rfl⟩ rfl)) ⟨rfl, rfl⟩
    | d :: r, l, hz, hzn, hd, hX, k =>
      cases h : (d :: r).find? (fun d => !isNmD d) with
      | some e =>
        have ex : ∀ P, apOut K P (d :: r) = Xt (He.ga K "BadName") [("name", e)] [] := fun P => by unfold apOut; rw [h]
        rw [ex] at hX
        exact q_asgP hX (hx _ _ _ (evx_call (k2 := []) (kr := []) (k3 := []) ha ⟨_, rfl, .inl ⟨t, _, l, hz, hd, (ex _).symm⟩, rfl⟩ rfl)) ⟨rfl, rfl⟩
      | none =>
        have ex : ∀ P, apOut K P (d :: r) = P (wdT (strN d) (r.map strN)) := fun P => by unfold apOut; rw [h]
        obtain ⟨h1, h2, h3, h4⟩ := wd_ats (strN d) (r.map strN)
        rw [List.length_cons] at hz hzn
        rw [List.length_map] at h1 h2 h3
        have sm : (wdT (strN d) (r.map strN)).sm := by
          refine sm_of (n := 8) h4 (by omega) (by decide) ?_
          calc (wdT (strN d) (r.map strN)).ops * (8 * 8) ≤ 7 * (8 * 8) := Nat.mul_le_mul_right _ (by omega)
            _ ≤ 90000 := by decide
        exact q_asg (hd0 _ (ev_callP ha ⟨_, rfl, .inl ⟨t, _, l, by rw [List.length_cons]; exact hz, hd, (ex fun u => Rt (McD K (mcT u 0)) []).symm⟩, rfl⟩)) (k _ sm (by omega) (by omega) (ex P))
  · exact q_asg (hd0 _ (ev_callP ha ⟨_, rfl, .inr ⟨v, rfl, hd, sm, hv, rfl⟩, rfl⟩)) (k v sm hv hvn rfl)
theorem MoR.n {K : PySem.W.Frag} {a : W} {P : Tr → Oc} {out : Oc} (h : MoR K a P out) : MoRn K 10 a P out := by
  rcases h with ⟨t, ds, l, hz, hd, e⟩ | ⟨v, e1, hd, sm, hv, e⟩
  · exact .inl ⟨t, ds, l, hz, by omega, hd, e⟩
  · exact .inr ⟨v, e1, hd, sm, hv, hv, e⟩
theorem q_mo {K : PySem.W.Frag} {B F0 : Hp} {ta : List (V × W)} {ro : Ro} {u : TS} {De : Ends} {P : Tr → Oc} {c : W} {out : Oc} {E : XK} {i : Nat} {tr : TA} (mo : MoR K c P out) (hX : RxOk K B F0 out E) (ha : EvA K tr ro [] [c] [])
    (k : ∀ v : Tr, v.sm → v.ats ≤ 10 → out = P v → Gp K B F0 ta (u De) (ro.set i (some (.val (McD K (mcT v 0))))) []) : Gp K B F0 ta (tSeq (tAsg (tCall (spC K (ct_machine_of K)) [] E tr) (gName i)) u De) ro [] :=
  q_moN mo.n hX ha (fun _ _ _ z => z) (fun _ _ z => z) (fun _ z => z) fun v h1 h2 _ h3 => k v h1 h2 h3
theorem sh_big {ps : List Str} {m : Mc} {n k : Nat} (h1 : ps.length ≤ 40) (h2 : m.at_.length ≤ 10) (h3 : k ≤ n) (h4 : 40 * (2 ^ 10 * 2 ^ n) ≤ 90000) : ps.length * (2 ^ m.at_.length * 2 ^ k) ≤ 90000 :=
  Nat.le_trans (Nat.mul_le_mul h1 (Nat.mul_le_mul (Nat.pow_le_pow_right (by decide) h2) (Nat.pow_le_pow_right (by decide) h3))) h4
def ct_without (K : PySem.W.Frag) : Ct := Ct3 fun a b c ka out => ∃ ps es st gs l, a = .val (CrsD K ps es st gs) ∧ b = .val (.str l) ∧ CkOk ps es st gs ∧ MoR K c (fun u => cuThen K es st gs [l] (ShO es st gs [l] (mcT u 0))) out ∧ ka = []
section
variable {P : Program} {w : World} {K : PySem.W.Frag} {mg : Str → Option Value} {base : Heap}
theorem ok_without (T : Tx K mg) (F_machine_of : Fn P w K mg base 26 (He.ga K "machine_of") ["thing"] (ct_machine_of K)) (F_check_used : Fn P w K mg base 12 (He.ga K "check_used") ["course", "lanes"] (ct_check_used K)) (F_shortest_run : Fn P w K mg base 8 (He.ga K "shortest_run") ["course", "wanted", "machine"] (ct_shortest_run K)) : Fn P w K mg base 28 (He.ga K "without") ["course", "lane", "pattern"] (ct_without K) := by
  obtain ⟨fd, F⟩ := T.d_without
  refine fn_ok F sc_without (fun _ _ _ _ _ _ us hl => match us, hl with | [_, _, _], _ => rfl) ct3_len (fun cdv A outer s H E hr => ⟨_, (pss_cons (ps_set (i := 3) sc_without.nd rfl (by first | exact Or.inl rfl | exact Or.inr rfl) (pe_call (F_machine_of.up (by decide)).ok hr rfl T.g_machine_of.1 T.g_machine_of.2 (F_machine_of.up (by decide)).bn .nil (pass_own rfl rfl rfl rfl) (pa_cons (pv 2) pa_nil)))
      (pss_cons (ps_expr (pe_call (F_check_used.up (by decide)).ok hr rfl T.g_check_used.1 T.g_check_used.2 (F_check_used.up (by decide)).bn .nil (pass_own rfl rfl rfl rfl) (pa_cons (pv 0) (pa_cons (pe_lst (pa_cons (pv 1) pa_nil)) pa_nil))))
      (pss_one (ps_ret (pe_call (F_shortest_run.up (by decide)).ok hr rfl T.g_shortest_run.1 T.g_shortest_run.2 (F_shortest_run.up (by decide)).bn .nil (pass_own rfl rfl rfl rfl) (pa_cons (pv 0) (pa_cons (pe_tup (pa_cons (pv 1) pa_nil)) (pa_cons (pv 3) pa_nil)))))))), fun ws ka out B F0 Q hC hR hX => ?_⟩)
  obtain ⟨a, b, c, rfl, ps, es, st, gs, l, rfl, rfl, ck, mo, rfl⟩ := hC
  refine q_mo mo hX (ea1 (ev_var rfl)) fun v sm hv e => ?_
  subst e
  have hpl := ck.pl
  have hgl := ck.gl
  have hel := ck.el
  have hal : (mcT v 0).at_.length ≤ 10 := by rw [mc_at_len]; exact hv
  have cu : EvA K (tCons (tVar 0) (tCons (tLst (tCons (tVar 1) tNil)) tNil)) [some (.val (CrsD K ps es st gs)), some (.val (.str l)), some c, some (.val (McD K (mcT v 0)))] [] [.val (CrsD K ps es st gs), .val (.lst (stD [l]))] [] := ea2 (ev_var rfl) (evn_lst (ds := [.str l]) (ea1 (ev_var rfl)) (show 1 ≤ 100000 by decide)).lst
  unfold cuThen at hR hX
  cases h1 : [l].find? (fun x => !decide (x ∈ lnN es)) with
  | some x =>
    rw [h1] at hX
    exact q_dropP hX (evx_call (k2 := []) (kr := []) (k3 := []) cu ⟨_, _, rfl, ps, es, st, gs, [l], false, rfl, ck, .vl, rfl, by unfold cuO; rw [h1]⟩ rfl) ⟨rfl, rfl⟩
  | none =>
    rw [h1] at hR hX
    dsimp only at hR hX
    cases h2 : [l].find? (fun x => !decide (x ∈ usedL es st gs)) with
    | some x =>
      rw [h2] at hX
      exact q_dropP hX (evx_call (k2 := []) (kr := []) (k3 := []) cu ⟨_, _, rfl, ps, es, st, gs, [l], false, rfl, ck, .vl, rfl, by unfold cuO; rw [h1]; dsimp only; rw [h2]⟩ rfl) ⟨rfl, rfl⟩
    | none =>
      rw [h2] at hR
      refine q_drop (ev_callP (d := .non) cu ⟨_, _, rfl, ps, es, st, gs, [l], false, rfl, ck, .vl, rfl, by unfold cuO; rw [h1]; dsimp only; rw [h2]⟩) ?_
      refine g_retS (k1 := []) (out' := ShO es st gs [l] (mcT v 0)) [] hR (ea3 (ev_var rfl) (ev_tup (ds := [.str l]) (ea1 (ev_var rfl)) (show 1 ≤ 100000 by decide)) (ev_var rfl)) ⟨_, _, _, rfl, ps, es, st, gs, [l], mcT v 0, rfl, rfl, rfl, ck.hst, fun r hr => (ck.hes r hr).2, ck.nd, by omega, by omega, (show 1 ≤ 1000 by decide), sm.fits 0, sh_big (k := 1) (n := 1) hpl hal (Nat.le_refl _) (by decide), rfl, rfl⟩ (fun o k h => ?_) (fun d k2 h => ?_)
      · rcases h with ⟨ls, a, e, _⟩ | ⟨e, _⟩
        · exact ⟨_, e⟩
        · exact ⟨_, e⟩
      · rw [List.append_nil]
        exact h
end
theorem goalP_sub (ps gs : List Str) : ∀ g ∈ goalP ps gs, g ∈ ps := fun g h => (List.mem_filter.mp h).1
theorem goalP_len (ps gs : List Str) : (goalP ps gs).length ≤ ps.length := List.length_filter_le _ _
theorem ev_netF {K : PySem.W.Frag} {ro : Ro} {ka kr : Cells} {te : TE} {ps : List Str} {es : List Ln} {P : W → Cells → Prop} (h : EvR K te ro ka P) (hP : ∀ w k, P w k → ∃ a o d, w = .val (.adr a) ∧ k = NetC K a o d ps es ++ kr) : EvD K te ro ka (.val (NetD K ps es)) kr :=
  EvR.frzN (k1 := kr) (EvR.rp (P2 := fun w k => ∃ a o d, w = .val (.adr a) ∧ k = kr ++ NetC K a o d ps es) h fun w k p => by
    obtain ⟨a, o, d, e1, e2⟩ := hP w k p
    exact ⟨_, ⟨a, o, d, e1, rfl⟩, by rw [e2]; exact List.perm_append_comm⟩) fun w k z => z
/-- Course(built(parts), start, ends) -/
theorem evr_course {K : PySem.W.Frag} {ro : Ro} {E1 E2 : XK} {ps : List Str} {es : List Ln} {st : Str} {gs : List Str} {t2 t3 t4 : TE} (hok : PtOk ps es) (hst : st ∈ ps) (hg : ∀ g ∈ gs, g ∈ ps) (hl : gs.length ≤ 1000)
    (h2 : EvD K t2 ro [] (.val (PtD ps es)) []) (h3 : EvD K t3 ro [] (.val (.str st)) []) (h4 : EvD K t4 ro [] (.val (.lst (stD gs))) []) :
    EvR K (tMake (He.ga K "Course") (spC K (ct_Course___init K)) [] E1 (tCons (tCall (spC K (ct_law_built K)) [] E2 (tCons t2 tNil)) (tCons t3 (tCons t4 tNil)))) ro [] (fun w k => ∃ c n o d, w = .val (.adr c) ∧ k = CrsC K c n o d ps es st (goalP ps gs)) := by
  have hpl := hok.pl
  have hel := hok.el
  have bn : EvD K (tCall (spC K (ct_law_built K)) [] E2 (tCons t2 tNil)) ro [] (.val (NetD K ps es)) [] := ev_netF (kr := []) (evr_call (k1 := []) [] (ea1 h2) ⟨_, rfl, ps, es, rfl, hok, rfl, rfl⟩ (fun o k ⟨a, o2, d, h, _⟩ => ⟨_, h⟩)) fun w k ⟨dd, k3, ⟨a, o, d, e1, e2⟩, e3, e4⟩ => by
    cases e1
    subst e2 e3 e4
    exact ⟨a, o, d, rfl, rfl⟩
  have hf : (st :: gs).find? (fun x => !decide (x ∈ ps)) = none := List.find?_eq_none.mpr fun y hy => by
    rcases List.mem_cons.mp hy with rfl | hy
    · simp [hst]
    · simp [hg y hy]
  refine evr_make (wd := []) (k1 := []) (ea3 bn h3 h4) dv_nil fun c => ⟨_, ⟨_, _, _, _, rfl, c, ps, es, st, gs, false, rfl, rfl, rfl, rfl, .vl, by omega, by omega, by omega, hok.ed, rfl⟩, ?_⟩
  rw [hf]
  rintro o' k ⟨n, o, d, e1, e2⟩
  exact ⟨e1, c, n, o, d, rfl, e2⟩
theorem row_same {es : List Ln} (hn : (lnN es).Nodup) {r q : Ln} (hr : r ∈ es) (hq : q ∈ es) (e : r.1 = q.1) : r = q := by
  obtain ⟨i, hi⟩ := List.getElem?_of_mem hr
  obtain ⟨j, hj⟩ := List.getElem?_of_mem hq
  have a1 : (lnN es)[i]? = some q.1 := by unfold lnN; rw [List.getElem?_map, hi]; exact congrArg some e
  have a2 : (lnN es)[j]? = some q.1 := by unfold lnN; rw [List.getElem?_map, hj]; rfl
  have := (List.getElem?_inj (List.getElem?_eq_some_iff.mp a1).1 hn).mp (a1.trans a2.symm)
  subst this
  rw [hi] at hj
  exact Option.some.inj hj
theorem used_row {es : List Ln} {st : Str} {gs : List Str} (hn : (lnN es).Nodup) {r : Ln} (hr : r ∈ es) : r.1 ∈ usedL es st gs ↔ usdB es st gs r = true := by
  unfold usedL
  constructor
  · intro h
    obtain ⟨q, hq, e⟩ := List.mem_map.mp h
    obtain ⟨h1, h2⟩ := List.mem_filter.mp hq
    rwa [row_same hn hr h1 e.symm]
  · exact fun h => List.mem_map.mpr ⟨r, List.mem_filter.mpr ⟨hr, h⟩, rfl⟩
theorem cut_mem {es : List Ln} {l : Str} {r : Ln} : r ∈ cutE es [l] ↔ r ∈ es ∧ r.1 ≠ l := by
  unfold cutE
  rw [List.mem_filter]
  simp
theorem used_sub {es : List Ln} {st : Str} {gs : List Str} {l : Str} (h : l ∈ usedL es st gs) : ∃ r ∈ es, r.1 = l ∧ usdB es st gs r = true := by
  unfold usedL at h
  obtain ⟨r, hr, e⟩ := List.mem_map.mp h
  obtain ⟨h1, h2⟩ := List.mem_filter.mp hr
  exact ⟨r, h1, e, h2⟩
theorem evr_opT {K : PySem.W.Frag} {C : Addr} {op : Operator} {ro : Ro} {ka k1 k2 : Cells} {te tf : TE} {x y : W} {fs : List (Str × D)} {b : Bool} {Cc : Ct} {out : Oc} {E : XK} (kr : Cells) (h1 : EvD K te ro ka x k1) (h2 : EvD K tf ro k1 y (k2 ++ kr)) (l : Io (k2 ++ kr) x C fs b) (t : TyWf K C op (k2 ++ kr) y) (hC : Cc [x, y] k2 out) (ho : ∀ o k, out o k → ∃ d, o = .ret d) :
    EvR K (tOp (rOwnT2 K C op (spC K Cc) E) te tf) ro ka (fun w k => ∃ d k3, out (.ret d) k3 ∧ w = .val d ∧ k = k3 ++ kr) := fun B F0 ta sg H Q e q =>
  h1 B F0 ta sg H _ e fun u H1 e1 => h2 B F0 _ sg H1 _ e1 fun v H2 e2 => by
    obtain ⟨a, dx, xs, rfl, ha⟩ := l.en e2 (List.mem_cons_of_mem _ List.mem_cons_self)
    obtain ⟨T, ty, bt⟩ := t.at_ _ _ _ _ _ _ _ e2 List.mem_cons_self
    refine ⟨a, dx, xs, T, rfl, ha, ty, bt, sp_rel (vs := [.ref a, v]) (ws := [x, y]) (ta := ta) (e2.held fun p hp => ?_) rfl hC ho fun d k3 v3 H' o e3 => q _ _ v3 H' ⟨d, k3, o, rfl, rfl⟩ e3⟩
    rcases List.mem_append.mp hp with hp | hp
    · simp at hp
      rcases hp with rfl | rfl
      · exact List.mem_cons_of_mem _ List.mem_cons_self
      · exact List.mem_cons_self
    · exact List.mem_cons_of_mem _ (List.mem_cons_of_mem _ hp)
/-- net - (lane,), told frozen -/
theorem ev_cut {K : PySem.W.Frag} {ro : Ro} {te tf : TE} {E : XK} {ps : List Str} {es : List Ln} {l : Str} (bt : BoT K (He.ga K "Net") .Sub "tuple") (h1 : EvD K te ro [] (.val (NetD K ps es)) []) (h2 : EvD K tf ro [] (.val (.tup (stD [l]))) []) (hl : l ∈ lnN es) (hn : (lnN es).Nodup) (hpl : ps.length ≤ 50000) (hel : es.length ≤ 50000) :
    EvD K (tOp (rOwnT2 K (He.ga K "Net") .Sub (spC K (ct_Net___sub K)) E) te tf) ro [] (.val (NetD K ps (cutE es [l]))) [] := by
  have hf : [l].find? (fun x => !decide (x ∈ lnN es)) = none := List.find?_eq_none.mpr fun y hy => by
    rw [List.mem_singleton.mp hy]
    simp [hl]
  refine ev_netF (kr := []) (evr_opT (k2 := []) (out := fun o' k => ∃ a o d, o' = .ret (.adr a) ∧ k = NetC K a o d ps (cutE es [l])) [] h1 h2 .v (tyw_tup .vt bt) ⟨_, _, rfl, ps, es, [l], rfl, rfl, hpl, hel, hn, rfl, by rw [hf]⟩ (fun o k ⟨a, _, _, e, _⟩ => ⟨_, e⟩)) ?_
  rintro w k ⟨d, k3, ⟨a, o, d2, e1, e2⟩, e3, e4⟩
  cases e1
  exact ⟨a, o, d2, e3, by rw [e4, e2]⟩
/-- how asking for a gate ends -/
inductive Gk where
  | no (x : Str) | same (x : Str) | run (x : Str) | ok (d : D)
def Gk.o (K : PySem.W.Frag) : Gk → Oc
  | .no x => Xt (He.ga K "NoLane") [("name", .str x)] []
  | .same x => Xt (He.ga K "SameLane") [("name", .str x)] []
  | .run x => Xt (He.ga K "NoRun") [("name", .str x)] []
  | .ok d => Rt d []
def Gk.d : Gk → D
  | .no x => .tup [.str "NoLane", .str x]
  | .same x => .tup [.str "SameLane", .str x]
  | .run x => .tup [.str "NoRun", .str x]
  | .ok d => .tup [.str "told", d]
/-- the posts around the start, or behind the lane, that the other lane alone leaves -/
noncomputable def gateD (ps : List Str) (es : List Ln) (st : Str) (gs : List Str) (l o : Str) : D :=
  if stO es l ∈ rchL ps (cutE es [o]) st then
    if (gs.filter fun p => decide (p ∈ rchL ps (cutE es [o]) (enO es l))) = [] then .tup [.str "behind", .tup (stD (rchL ps (cutE es [o]) (enO es l)))] else .non
  else .tup [.str "before", .tup (stD (rchL ps (cutE es [o]) st))]
noncomputable def gk (ps : List Str) (es : List Ln) (st : Str) (gs : List Str) (l o : Str) : Gk := match [l, o].find? (fun x => !decide (x ∈ lnN es)) with
  | some x => .no x
  | none => if l = o then .same l else if l ∈ usedL es st gs then .ok (gateD ps es st gs l o) else .run l
def ct_gate (K : PySem.W.Frag) : Ct := Ct3 fun a b c ka out => ∃ ps es st gs l o, a = .val (CrsD K ps es st gs) ∧ b = .val (.str l) ∧ c = .val (.str o) ∧ CkOk ps es st gs ∧ ka = [] ∧ out = (gk ps es st gs l o).o K
section
variable {P : Program} {w : World} {K : PySem.W.Frag} {mg : Str → Option Value} {base : Heap}
theorem ok_gate (T : Tx K mg) (F_Net_start_of : Fn P w K mg base 4 (He.ma K (He.ga K "Net") "start_of") ["self", "lane"] (ct_Net_start_of K)) (F_Net_end_of : Fn P w K mg base 4 (He.ma K (He.ga K "Net") "end_of") ["self", "lane"] (ct_Net_end_of K)) (F_Net___sub : Fn P w K mg base 6 (He.ma K (He.ga K "Net") "__sub__") ["self", "lanes"] (ct_Net___sub K)) (F_reached_posts : Fn P w K mg base 4 (He.ga K "reached_posts") ["net", "start"] (ct_reached_posts K)) (F_check_known : Fn P w K mg base 6 (He.ga K "check_known") ["course", "lanes"] (ct_check_known K)) (F_check_used : Fn P w K mg base 12 (He.ga K "check_used") ["course", "lanes"] (ct_check_used K)) (Z_SameLane : Xn P w K mg base (He.ga K "SameLane") "name") : Fn P w K mg base 14 (He.ga K "gate") ["course", "lane", "other"] (ct_gate K) := by
  obtain ⟨fd, F⟩ := T.d_gate
  refine fn_ok F sc_gate (fun _ _ _ _ _ _ us hl => match us, hl with | [_, _, _], _ => rfl) ct3_len (fun cdv A outer s H E hr => ⟨_, (pss_cons (ps_expr (pe_call (F_check_known.up (by decide)).ok hr rfl T.g_check_known.1 T.g_check_known.2 (F_check_known.up (by decide)).bn .nil (pass_own rfl rfl rfl rfl) (pa_cons (pv 0) (pa_cons (pe_lst (pa_cons (pv 1) (pa_cons (pv 2) pa_nil))) pa_nil))))
      (pss_cons (ps_if (pt_cmpR (op_eqP (by have := (hr).units; exact this)) (pv 1) (pv 2) (nomark _))
      (pss_one (ps_raise rfl (takes_of rfl rfl rfl rfl) (pmk_oex Z_SameLane.xc.oex Z_SameLane.all.1 Z_SameLane.all.2.1 Z_SameLane.all.2.2.1 (hr.mono (by decide)) Z_SameLane.all.2.2.2 .nil passes_no rfl T.g_SameLane.1 (pa_cons (pv 1) pa_nil))))
      pss_nil)
      (pss_cons (ps_expr (pe_call (F_check_used.up (by decide)).ok hr rfl T.g_check_used.1 T.g_check_used.2 (F_check_used.up (by decide)).bn .nil (pass_own rfl rfl rfl rfl) (pa_cons (pv 0) (pa_cons (pe_lst (pa_cons (pv 1) pa_nil)) pa_nil))))
      (pss_cons (ps_set (i := 3) sc_gate.nd rfl (by first | exact Or.inl rfl | exact Or.inr rfl) (pe_op (op_ow T.bo_Net_Sub (F_Net___sub.up (by decide)) hr (pass_own rfl rfl rfl rfl)) (pe_fld (pv 0) rfl) (pe_tup (pa_cons (pv 2) pa_nil))))
      (pss_cons (ps_set (i := 4) sc_gate.nd rfl (by first | exact Or.inl rfl | exact Or.inr rfl) (pe_call (F_reached_posts.up (by decide)).ok hr rfl T.g_reached_posts.1 T.g_reached_posts.2 (F_reached_posts.up (by decide)).bn .nil (pass_own rfl rfl rfl rfl) (pa_cons (pv 3) (pa_cons (pe_fld (pv 0) rfl) pa_nil))))
      (pss_cons (ps_if (pt_cmpR op_niU (pe_meth (pv 3) T.cl_Net T.me_Net_start_of (F_Net_start_of.up (by decide)).ok hr (F_Net_start_of.up (by decide)).bn .nil (pass_own rfl rfl rfl rfl) (pa_cons (pv 1) pa_nil)) (pv 4) (by with_unfolding_all rfl))
      (pss_one (ps_ret (pe_tup (pa_cons pe_str (pa_cons (pv 4) pa_nil)))))
      pss_nil)
      (pss_cons (ps_set (i := 5) sc_gate.nd rfl (by first | exact Or.inl rfl | exact Or.inr rfl) (pe_call (F_reached_posts.up (by decide)).ok hr rfl T.g_reached_posts.1 T.g_reached_posts.2 (F_reached_posts.up (by decide)).bn .nil (pass_own rfl rfl rfl rfl) (pa_cons (pv 3) (pa_cons (pe_meth (pv 3) T.cl_Net T.me_Net_end_of (F_Net_end_of.up (by decide)).ok hr (F_Net_end_of.up (by decide)).bn .nil (pass_own rfl rfl rfl rfl) (pa_cons (pv 1) pa_nil)) pa_nil))))
      (pss_cons (ps_if (pt_cmpR (op_eqP (by have := (hr).units; exact this)) (pe_lc (te := (tVar 6)) (tt := (tTest (tOp (rInU K) (tVar 6) (tVar 5)))) (own := [("post", 6)]) rfl sc_gate.nd (pi_seq (pe_fld (pv 0) rfl)) (blk_ok ["course", "lane", "other", "rest", "ahead", "behind", "post"] (defScope s_gate) rfl rfl (by decide +kernel)) (fun _ _ _ _ _ => (pg_name (i := 6) sc_gate.nd rfl (by first | exact Or.inl rfl | exact Or.inr rfl))) (fun _ _ _ _ _ => (pts_one (pt_cmpR op_inU (pv 6) (pv 5) (by with_unfolding_all rfl)))) (fun _ _ _ _ _ => (pv 6))) (pe_lst pa_nil) (nomark _))
      (pss_one (ps_ret (pe_tup (pa_cons pe_str (pa_cons (pv 5) pa_nil)))))
      pss_nil)
      (pss_one (ps_ret pe_non)))))))))), fun ws ka out B F0 Q hC hR hX => ?_⟩)
  obtain ⟨a, b, c, rfl, ps, es, st, gs, l, o, rfl, rfl, rfl, ck, rfl, rfl⟩ := hC
  have cC := T.cl_Course
  have hpl := ck.pl
  have hgl := ck.gl
  have hel := ck.el
  have two : ∀ {te tf : TE} {x y : Str}, EvD K te [some (.val (CrsD K ps es st gs)), some (.val (.str l)), some (.val (.str o)), none, none, none, none] [] (.val (.str x)) [] → EvD K tf [some (.val (CrsD K ps es st gs)), some (.val (.str l)), some (.val (.str o)), none, none, none, none] [] (.val (.str y)) [] → EvD K (tLst (tCons te (tCons tf tNil))) [some (.val (CrsD K ps es st gs)), some (.val (.str l)), some (.val (.str o)), none, none, none, none] [] (.val (.lst (stD [x, y]))) [] := fun {te tf x y} h1 h2 => (evn_lst (ds := [.str x, .str y]) (ea2 h1 h2) (show 2 ≤ 100000 by decide)).lst
  unfold gk at hR hX
  cases h1 : [l, o].find? (fun x => !decide (x ∈ lnN es)) with
  | some x =>
    rw [h1] at hX
    exact q_dropP hX (evx_call (k2 := []) (kr := []) (k3 := []) (ea2 (ev_var rfl) (two (ev_var rfl) (ev_var rfl))) ⟨_, _, rfl, ps, es, st, gs, [l, o], false, rfl, .vl, by omega, rfl, by rw [h1]⟩ rfl) ⟨rfl, rfl⟩
  | none =>
  rw [h1] at hR hX
  dsimp only at hR hX
  have hin : l ∈ lnN es ∧ o ∈ lnN es := by
    have := List.find?_eq_none.mp h1
    have a1 := this l List.mem_cons_self
    have a2 := this o (List.mem_cons_of_mem _ List.mem_cons_self)
    exact ⟨by simpa using a1, by simpa using a2⟩
  refine q_drop (ev_callP (d := .non) (ea2 (ev_var rfl) (two (ev_var rfl) (ev_var rfl))) ⟨_, _, rfl, ps, es, st, gs, [l, o], false, rfl, .vl, by omega, rfl, by rw [h1]⟩) ?_
  refine q_when (et_test (ev_eqS (ev_var rfl) (ev_var rfl))) (fun hb => ?_) (fun hb => ?_)
  · rw [beq_iff_eq] at hb
    rw [if_pos hb] at hX
    exact g_raise1 hX (ea1 (ev_var rfl)) Z_SameLane.xc.oex Z_SameLane.no ⟨rfl, rfl⟩
  rw [beq_eq_false_iff_ne] at hb
  rw [if_neg hb] at hR hX
  have cu : EvA K (tCons (tVar 0) (tCons (tLst (tCons (tVar 1) tNil)) tNil)) [some (.val (CrsD K ps es st gs)), some (.val (.str l)), some (.val (.str o)), none, none, none, none] [] [.val (CrsD K ps es st gs), .val (.lst (stD [l]))] [] := ea2 (ev_var rfl) (evn_lst (ds := [.str l]) (ea1 (ev_var rfl)) (show 1 ≤ 100000 by decide)).lst
  have f1 : [l].find? (fun x => !decide (x ∈ lnN es)) = none := List.find?_eq_none.mpr fun y hy => by rw [List.mem_singleton.mp hy]; simp [hin.1]
  by_cases hu : l ∈ usedL es st gs
  rotate_left
  · rw [if_neg hu] at hX
    have f2 : [l].find? (fun x => !decide (x ∈ usedL es st gs)) = some l := by rw [List.find?_cons, decide_eq_false hu]; rfl
    exact q_dropP hX (evx_call (k2 := []) (kr := []) (k3 := []) cu ⟨_, _, rfl, ps, es, st, gs, [l], false, rfl, ck, .vl, rfl, by unfold cuO; rw [f1]; dsimp only; rw [f2]⟩ rfl) ⟨rfl, rfl⟩
  rw [if_pos hu] at hR
  refine q_drop (ev_callP (d := .non) cu ⟨_, _, rfl, ps, es, st, gs, [l], false, rfl, ck, .vl, rfl, (cuO_ok fun w hw => by rw [List.mem_singleton.mp hw]; exact hu).symm⟩) ?_
  have hcl := cutE_len es [o]
  have hcn := cutE_nd ck.nd [o]
  have hce : ∀ r ∈ cutE es [o], r.2.2 ∈ ps := fun r hr => (ck.hes r (cutE_sub hr)).2
  obtain ⟨r, hr, rfl⟩ := List.mem_map.mp hin.1
  have hrc : r ∈ cutE es [o] := cut_mem.mpr ⟨hr, hb⟩
  unfold gateD at hR
  rw [stO_eq ck.nd hr, enO_eq ck.nd hr] at hR
  refine q_asg (w := .val (NetD K ps (cutE es [o]))) (ev_cut T.bt_Net_Sub_tuple (ev_fld (ev_var rfl) .v cC T.na_Course_base rfl) (ev_tup (ds := [.str o]) (ea1 (ev_var rfl)) (show 1 ≤ 100000 by decide)) hin.2 ck.nd (by omega) (by omega)) ?_
  refine q_asg (w := .val (.tup (stD (rchL ps (cutE es [o]) st)))) (ev_callP (ea2 (ev_var rfl) (ev_fld (ev_var rfl) .v cC T.na_Course_start rfl)) ⟨_, _, rfl, ps, cutE es [o], st, rfl, rfl, ck.hst, hce, hcn, by omega, by omega, rfl, rfl⟩) ?_
  refine q_when (et_test (ev_niL (ev_methP (d := .str r.2.1) (ev_var rfl) .v rfl (ea1 (ev_var rfl)) ⟨_, _, rfl, ps, cutE es [o], r.1, ⟨.inl rfl⟩, rfl, hcn, .inl ⟨r, hrc, rfl, rfl⟩⟩) (ev_var rfl) .vt)) (fun h2 => ?_) (fun h2 => ?_)
  · rw [Bool.not_eq_true', decide_eq_false_iff_not] at h2
    rw [if_neg h2] at hR
    exact g_ret hR (ev_tup (ds := [.str "before", .tup (stD (rchL ps (cutE es [o]) st))]) (ea2 ev_str (ev_var rfl)) (show 2 ≤ 100000 by decide)) ⟨rfl, rfl⟩
  rw [Bool.not_eq_false', decide_eq_true_eq] at h2
  rw [if_pos h2] at hR
  refine q_asg (w := .val (.tup (stD (rchL ps (cutE es [o]) r.2.2)))) (ev_callP (ea2 (ev_var rfl) (ev_methP (d := .str r.2.2) (ev_var rfl) .v rfl (ea1 (ev_var rfl)) ⟨_, _, rfl, ps, cutE es [o], r.1, ⟨.inl rfl⟩, rfl, hcn, .inl ⟨r, hrc, rfl, rfl⟩⟩)) ⟨_, _, rfl, ps, cutE es [o], r.2.2, rfl, rfl, (ck.hes r hr).2, hce, hcn, by omega, by omega, rfl, rfl⟩) ?_
  refine q_when ((et_test (ev_eq (d := .lst (stD (gs.filter fun p => decide (p ∈ rchL ps (cutE es [o]) r.2.2)))) (e := .lst []) (evn_filt (xs := gs) (g := fun s => W.val (.str s)) (f := fun s => D.str s) (p := fun p => decide (p ∈ rchL ps (cutE es [o]) r.2.2)) (ei_strsL (ev_fld (ev_var rfl) .v cC T.na_Course_ends rfl) .vt) (by decide) (by omega) ⟨trivial, fun _ => trivial⟩ (fun p hp => et_test (ev_inL (tt := true) (b := false) (ss := rchL ps (cutE es [o]) r.2.2) (ev_var rfl) (ev_var rfl) .vt)) (fun p hp _ => ev_var rfl)).lst (evn_lst (ds := []) ea_nil (by decide)).lst .v .v (pl_stD _ 60) rfl)).to (eqL_stD _ [])) (fun h3 => ?_) (fun h3 => ?_)
  · rw [decide_eq_true_eq] at h3
    rw [if_pos h3] at hR
    exact g_ret hR (ev_tup (ds := [.str "behind", .tup (stD (rchL ps (cutE es [o]) r.2.2))]) (ea2 ev_str (ev_var rfl)) (show 2 ≤ 100000 by decide)) ⟨rfl, rfl⟩
  · rw [decide_eq_false_iff_not] at h3
    rw [if_neg h3] at hR
    exact g_ret hR ev_non ⟨rfl, rfl⟩
end
theorem ev_lenK {K : PySem.W.Frag} {ro : Ro} {ka k1 : Cells} {te : TE} {p : Addr} {ns : List Int} (h : EvD K te ro ka (.val (.adr p)) k1) (hk : ∀ H, SqL K H p (ns.map V.int)) : EvD K (tCB (rLenU K) (tCons te tNil)) ro ka (.val (.int ns.length)) k1 := fun B F0 ta sg H Q e q => h B F0 ta sg H _ e fun v H1 e1 => .inl ⟨p, ns.map V.int, by rw [e1.tm_adr List.mem_cons_self], .inl (hk H1), by
  rw [List.length_map]
  exact q _ _ (e1.pop.push_imm fun _ => rfl)⟩
theorem ev_ixK {K : PySem.W.Frag} {ro : Ro} {ka k1 k2 : Cells} {te tf : TE} {p : Addr} {ns : List Int} {i : Nat} {z : Int} (h : EvD K te ro ka (.val (.adr p)) k1) (h2 : EvD K tf ro k1 (.val (.int i)) k2) (hk : ∀ H, SqL K H p (ns.map V.int)) (hz : ns[i]? = some z) : EvD K (tOp (rIx K) te tf) ro ka (.val (.int z)) k2 := ev_op h h2 fun B F0 ro ta sg H u v Q e h1 h2 q =>
  .inl ⟨p, ns.map V.int, i, .int z, e.tm_adr h1, e.tm_int h2, hk H, atI_nat (by rw [List.getElem?_map, hz]; rfl), q _ _ (e.push_imm fun _ => rfl)⟩
def ct_law_cell (K : PySem.W.Frag) : Ct := Ct2 fun a b ka out => ∃ ns, ∃ k : Nat, Scr K a ns ∧ b = .val (.int k) ∧ ka = [] ∧ out = Rt (.int (ns.getD k 0)) []
section
variable {P : Program} {w : World} {K : PySem.W.Frag} {mg : Str → Option Value} {base : Heap}
theorem ok_law_cell (T : Tx K mg) : Fn P w K mg base 4 (He.ga K "_law_cell") ["_law_script", "_law_k"] (ct_law_cell K) := by
  obtain ⟨fd, F⟩ := T.d_law_cell
  refine fn_ok F sc_law_cell (fun _ _ _ _ _ _ us hl => match us, hl with | [_, _], _ => rfl) ct2_len (fun cdv A outer s H E hr => ⟨_, (pss_cons (ps_if (pt_cmpR op_lt (pv 1) (pe_callB call_lenU rfl T.n_len (by decide +kernel) (pa_cons (pv 0) pa_nil)) (nomark _))
      (pss_one (ps_ret (pe_ix ix_seq (pv 0) (pv 1) fun _ _ => rfl)))
      pss_nil)
      (pss_one (ps_ret pe_int))), fun ws ka out B F0 Q hC hR hX => ?_⟩)
  obtain ⟨a, b, rfl, ns, k, hs, rfl, rfl, rfl⟩ := hC
  have out0 : ¬ k < ns.length → ns.getD k 0 = 0 := fun h => by
    rw [List.getD_eq_getElem?_getD, List.getElem?_eq_none (by omega)]
    rfl
  have in0 : k < ns.length → ns[k]? = some (ns.getD k 0) := fun h => by
    rw [List.getD_eq_getElem?_getD, List.getElem?_eq_getElem h]
    rfl
  rcases hs with rfl | ⟨p, rfl, hk⟩
  · have hl : (inD ns).length = ns.length := List.length_map ..
    refine q_when (et_test (ev_lt (ev_var rfl) (ev_len (ev_var rfl) .vl))) (fun hb => g_ret hR (ev_ixV (d := .int (ns.getD k 0)) (ev_var rfl) (ev_var rfl) .vl (atI_nat ?_)) ⟨rfl, rfl⟩) (fun hb => g_ret hR ev_int ⟨?_, rfl⟩)
    · rw [decide_eq_true_eq, hl] at hb
      unfold inD
      rw [List.getElem?_map, in0 (by omega)]
      rfl
    · rw [decide_eq_false_iff_not, hl] at hb
      rw [out0 (by omega)]
  · refine q_when (et_test (ev_lt (ev_var rfl) (ev_lenK (ev_var rfl) hk))) (fun hb => g_ret hR (ev_ixK (ev_var rfl) (ev_var rfl) hk (in0 ?_)) ⟨rfl, rfl⟩) (fun hb => g_ret hR ev_int ⟨?_, rfl⟩)
    · rw [decide_eq_true_eq] at hb
      omega
    · rw [decide_eq_false_iff_not] at hb
      rw [out0 (by omega)]
end
def ct_law_pool (K : PySem.W.Frag) : Ct := Ct1 fun a ka out => ∃ z, a = .val (.int z) ∧ ka = [] ∧ out = Nt (.lst (plOf z).ds) []
section
variable {P : Program} {w : World} {K : PySem.W.Frag} {mg : Str → Option Value} {base : Heap}
theorem ok_law_pool (T : Tx K mg) : Fn P w K mg base 4 (He.ga K "_law_pool") ["_law_cell_here"] (ct_law_pool K) := by
  obtain ⟨fd, F⟩ := T.d_law_pool
  refine fn_ok F sc_law_pool (fun _ _ _ _ _ _ us hl => match us, hl with | [_], _ => rfl) ct1_len (fun cdv A outer s H E hr => ⟨_, (pss_cons (ps_set (i := 1) sc_law_pool.nd rfl (by first | exact Or.inl rfl | exact Or.inr rfl) (pe_op op_mulU pe_int (pv 0)))
      (pss_cons (ps_if (pt_cmpR op_lt (pv 0) pe_int (nomark _))
      (pss_one (ps_set (i := 1) sc_law_pool.nd rfl (by first | exact Or.inl rfl | exact Or.inr rfl) (pe_op op_sub (pe_op op_sub pe_int (pe_op op_mulU pe_int (pv 0))) pe_int)))
      pss_nil)
      (pss_cons (ps_if (pt_cmpR op_ge (pv 1) (pe_op op_pow pe_int pe_int) (nomark _))
      (pss_one (ps_ret (pe_lst (pa_cons (pv 1) (pa_cons (pe_op op_mod (pe_callTy call_intU rfl T.n_int (by decide +kernel) (pa_cons (pv 1) pa_nil)) pe_int) (pa_cons pe_int pa_nil))))))
      pss_nil)
      (pss_one (ps_ret (pe_lst (pa_cons pe_int (pa_cons (pe_op op_mod (pe_callTy call_intU rfl T.n_int (by decide +kernel) (pa_cons (pv 1) pa_nil)) pe_int) (pa_cons pe_int pa_nil))))))))), fun ws ka out B F0 Q hC hR hX => ?_⟩)
  obtain ⟨a, rfl, z, rfl, rfl, rfl⟩ := hC
  refine q_asg (ev_mulL ev_int (ev_var rfl)) ?_
  refine q_whenI (fun ro ka => ro = [some (.val (.int z)), some (.val (.int (fldZ z)))] ∧ ka = []) (et_test (ev_lt (ev_var rfl) ev_int)) (fun hb nx k => g_asg (ev_subI (ev_subI ev_int (ev_mulL ev_int (ev_var rfl))) ev_int) (k _ _ ⟨?_, rfl⟩)) (fun hb => ⟨?_, rfl⟩) ?_
  · rw [decide_eq_true_eq] at hb
    unfold fldZ
    rw [if_pos hb]
    rfl
  · rw [decide_eq_false_iff_not] at hb
    unfold fldZ
    rw [if_neg hb]
    rfl
  · rintro ro2 ka2 ⟨rfl, rfl⟩
    refine q_when (et_test (ev_ge (ev_var rfl) (ev_powI ev_int ev_int ⟨by decide, by decide, by decide⟩))) (fun hb => g_retC hR (evn_lst (ds := (plOf z).ds) (ea3 (ev_var rfl) (ev_modI (ev_int1 (ev_var rfl)) ev_int (by decide)) ev_int |>.to ?_) (show 3 ≤ 100000 by decide)) (fun a => ⟨a, rfl, rfl⟩)) (fun hb => g_retC hR (evn_lst (ds := (plOf z).ds) (ea3 ev_int (ev_modI (ev_int1 (ev_var rfl)) ev_int (by decide)) ev_int |>.to ?_) (show 3 ≤ 100000 by decide)) (fun a => ⟨a, rfl, rfl⟩))
    · rw [decide_eq_true_eq] at hb
      have hb : fldZ z ≥ 10 ^ 18 := hb
      unfold plOf
      rw [if_pos hb]
      rfl
    · rw [decide_eq_false_iff_not] at hb
      have hb : ¬ fldZ z ≥ 10 ^ 18 := hb
      unfold plOf
      rw [if_neg hb]
      rfl
end
def ct_law_take (K : PySem.W.Frag) : Ct := Ct2 fun s b ka out => ∃ a p m, s = .val (.adr a) ∧ b = .val (.int m) ∧ ka = [(a, .lst (Pl.ds p))] ∧ p.Ok 1000000 ∧ 0 < m ∧ m ≤ 100000000 ∧ out = Rt (.int (tk p m).1) [(a, .lst (tk p m).2.ds)]
/-- a draw from the pool that is the first cell -/
theorem ev_take {K : PySem.W.Frag} {ro : Ro} {ka kr : Cells} {te tf : TE} {a : Addr} {p : Pl} {m : Int} {E : XK} {k1 : Cells} (h : EvD K te ro ka (.val (.adr a)) k1) (h2 : EvD K tf ro k1 (.val (.int m)) ((a, .lst p.ds) :: kr)) (hp : p.Ok 1000000) (h0 : 0 < m) (h1 : m ≤ 100000000) :
    EvD K (tCall (spC K (ct_law_take K)) [] E (tCons te (tCons tf tNil))) ro ka (.val (.int (tk p m).1)) ((a, .lst (tk p m).2.ds) :: kr) := ev_call1 (ea2 h h2) ⟨_, _, rfl, a, p, m, rfl, rfl, rfl, hp, h0, h1, rfl⟩
section
variable {P : Program} {w : World} {K : PySem.W.Frag} {mg : Str → Option Value} {base : Heap}
theorem ok_law_take (T : Tx K mg) : Fn P w K mg base 4 (He.ga K "_law_take") ["_law_pool_here", "_law_many_here"] (ct_law_take K) := by
  obtain ⟨fd, F⟩ := T.d_law_take
  refine fn_ok F sc_law_take (fun _ _ _ _ _ _ us hl => match us, hl with | [_, _], _ => rfl) ct2_len (fun cdv A outer s H E hr => ⟨_, (pss_cons (ps_if (pt_cmpR op_gt (pe_ix ix_seq (pv 0) pe_int fun _ _ => rfl) pe_int (nomark _))
      (pss_cons (ps_set (i := 2) sc_law_take.nd rfl (by first | exact Or.inl rfl | exact Or.inr rfl) (pe_op op_mod (pe_callTy call_intU rfl T.n_int (by decide +kernel) (pa_cons (pe_ix ix_seq (pv 0) pe_int fun _ _ => rfl) pa_nil)) (pv 1)))
      (pss_cons (ps_asg (pe_op op_fdiv (pe_ix ix_seq (pv 0) pe_int fun _ _ => rfl) (pv 1)) (pg_sub (pv 0) pe_int set_list))
      (pss_one (ps_ret (pv 2)))))
      pss_nil)
      (pss_cons (ps_asg (pe_op op_addU (pe_ix ix_seq (pv 0) pe_int fun _ _ => rfl) pe_int) (pg_sub (pv 0) pe_int set_list))
      (pss_cons (ps_set (i := 3) sc_law_take.nd rfl (by first | exact Or.inl rfl | exact Or.inr rfl) (pe_op op_mod (pe_callTy call_intU rfl T.n_int (by decide +kernel) (pa_cons (pe_op op_pow (pe_op op_addU (pe_op op_addU (pe_ix ix_seq (pv 0) pe_int fun _ _ => rfl) (pe_op op_mulU pe_int (pe_ix ix_seq (pv 0) pe_int fun _ _ => rfl))) pe_int) pe_int) pa_nil)) pe_int))
      (pss_one (ps_ret (pe_op op_mod (pe_op op_mod (pe_callTy call_intU rfl T.n_int (by decide +kernel) (pa_cons (pe_op op_mulU (pe_op op_addU (pv 3) (pe_ix ix_seq (pv 0) pe_int fun _ _ => rfl)) pe_int) pa_nil)) pe_int) (pv 1))))))), fun ws ka out B F0 Q hC hR hX => ?_⟩)
  obtain ⟨s1, b, rfl, a, p, m, rfl, rfl, rfl, hp, h0, h1, rfl⟩ := hC
  obtain ⟨p1, p2, p3, p4, p5⟩ := hp
  have i2 : atI (Pl.ds p) 2 = some (.int p.c) := atI_nat (j := 2) rfl
  have i1 : atI (Pl.ds p) 1 = some (.int p.b) := atI_nat (j := 1) rfl
  refine q_when (et_test (ev_gt (ev_ixV (ev_var rfl) ev_int (.ce 0 rfl) at0) ev_int)) (fun hb => ?_) (fun hb => ?_)
  · rw [decide_eq_true_eq] at hb
    refine q_asg (ev_modI (ev_int1 (ev_ixV (ev_var rfl) ev_int (.ce 0 rfl) at0)) (ev_var rfl) h0) ?_
    refine q_seti (j := 0) (ix := 0) (ev_divI (ev_ixV (ev_var rfl) ev_int (.ce 0 rfl) at0) (ev_var rfl) ⟨h0, by omega⟩) (ev_var rfl) ev_int rfl rfl ?_
    refine g_ret hR (ev_var rfl) ?_
    unfold tk
    rw [if_pos hb]
    exact ⟨rfl, rfl⟩
  · rw [decide_eq_false_iff_not] at hb
    refine q_seti (j := 0) (ix := 2) (ev_addI (ev_ixV (ev_var rfl) ev_int (.ce 0 rfl) i2) ev_int) (ev_var rfl) ev_int rfl rfl ?_
    refine q_asg (ev_modI (ev_int1 (ev_powI (i := p.b + 7919 * (p.c + 1) + 104729) (ev_addI (ev_addI (ev_ixV (ev_var rfl) ev_int (.ce 0 rfl) (atI_nat (j := 1) rfl)) (ev_mulL ev_int (ev_ixV (ev_var rfl) ev_int (.ce 0 rfl) (atI_nat (j := 2) rfl)))) ev_int) ev_int ⟨by decide, by decide, ?_⟩)) ev_int (by decide)) ?_
    · omega
    refine g_ret hR (ev_modI (ev_modI (ev_int1 (ev_mulR (ev_addI (ev_var rfl) (ev_ixV (ev_var rfl) ev_int (.ce 0 rfl) (atI_nat (j := 2) rfl))) ev_int)) ev_int (by decide)) (ev_var rfl) h0) ?_
    unfold tk
    rw [if_neg hb]
    exact ⟨rfl, rfl⟩
end
structure WdOk (l : List Nat) (k : Nat) : Prop where
  hd : ∃ c, l.head? = some c ∧ c ∈ letL
  sg : ∀ x ∈ l, x ∈ letL ++ digL
  len : l.length = k
theorem head_take {l : List Nat} {n : Nat} (h : 0 < n) : (l.take n).head? = l.head? := by
  cases l with
  | nil => simp
  | cons c r =>
    cases n with
    | zero => omega
    | succ n => rfl
theorem head_app {l m : List Nat} {c : Nat} (h : l.head? = some c) : (l ++ m).head? = some c := by
  cases l with
  | nil => cases h
  | cons d r => exact h
theorem key_snoc {β : Type} {key : Str → β} {f : Nat → β} {ss : List Str} {x : Str} (h : ∀ j s, ss[j]? = some s → key s = f j) (hx : key x = f ss.length) : ∀ j s, (ss ++ [x])[j]? = some s → key s = f j := fun j s e => by
  rcases Nat.lt_trichotomy j ss.length with q | q | q
  · rw [List.getElem?_append_left q] at e
    exact h j s e
  · subst q
    rw [List.getElem?_append_right (Nat.le_refl _), Nat.sub_self] at e
    cases e
    exact hx
  · rw [List.getElem?_append_right (by omega)] at e
    have := (List.getElem?_eq_some_iff.mp e).1
    rw [List.length_singleton] at this
    omega
theorem key_nd {β : Type} {key : Str → β} {f : Nat → β} {ss : List Str} (h : ∀ j s, ss[j]? = some s → key s = f j) (inj : ∀ i j, i < j → j < ss.length → f i ≠ f j) : ss.Nodup := by
  refine List.pairwise_iff_getElem.mpr fun i j hi hj hij e => inj i j hij hj ?_
  rw [← h i _ (List.getElem?_eq_getElem hi), ← h j _ (List.getElem?_eq_getElem hj), e]
theorem at_get {β : Type} {xs : List β} {i : Int} {x : β} (h0 : 0 ≤ i) (h : atI xs i = some x) : xs[i.toNat]? = some x := by
  unfold atI ixN at h
  rw [if_pos h0] at h
  by_cases q : i < xs.length
  · rw [if_pos q] at h
    exact h
  · rw [if_neg q] at h
    cases h
theorem let_nd : letL.Nodup := by decide
theorem sig_nd : (letL ++ digL).Nodup := by decide
theorem nd_inj {xs : List Nat} (h : xs.Nodup) {i j : Nat} (hi : i < xs.length) (hij : i ≠ j) : xs[i]? ≠ xs[j]? := fun e => by
  rw [List.getElem?_eq_getElem hi] at e
  obtain ⟨hj, e2⟩ := List.getElem?_eq_some_iff.mp e.symm
  exact hij ((List.getElem_inj h).mp e2).symm
theorem nm_put {st : List Nat} {k c p : Nat} (hl : WdOk st k) (hk : k ≤ 7) (hp : p ≤ st.length) (h0 : p = 0 → c ∈ letL) (hc : c ∈ letL ++ digL) : isNm (tx (st.take p ++ [c] ++ st.drop p)) = true := by
  refine nm_of ?_ (fun x hx => ?_) ?_
  · by_cases hp0 : p = 0
    · subst hp0
      exact ⟨c, by simp, h0 rfl⟩
    · obtain ⟨d, h1, h2⟩ := hl.hd
      exact ⟨d, head_app (head_app (by rw [head_take (by omega)]; exact h1)), h2⟩
  · rcases List.mem_append.mp hx with hx | hx
    · rcases List.mem_append.mp hx with hx | hx
      · exact hl.sg x (List.mem_of_mem_take hx)
      · rw [List.mem_singleton.mp hx]; exact hc
    · exact hl.sg x (List.mem_of_mem_drop hx)
  · have := hl.len
    rw [List.length_append, List.length_append, List.length_take, List.length_drop]
    simp
    omega
def ct_law_many (K : PySem.W.Frag) : Ct := Ct2 fun s b ka out => ∃ a p n m, s = .val (.adr a) ∧ b = .val (.int m) ∧ ka = [(a, .lst (Pl.ds p))] ∧ p.Ok n ∧ 0 ≤ n ∧ n ≤ 900000 ∧ 0 ≤ m ∧ m ≤ 26 ∧
  out = fun o k => ∃ ss p', o = .ret (.lst (stD ss)) ∧ k = [(a, .lst (Pl.ds p'))] ∧ p'.Ok (n + 50) ∧ ss.length = m.toNat ∧ (∀ s ∈ ss, isNm s = true) ∧ ss.Nodup
section
variable {P : Program} {w : World} {K : PySem.W.Frag} {mg : Str → Option Value} {base : Heap}
theorem ok_law_many (T : Tx K mg) (F_law_take : Fn P w K mg base 4 (He.ga K "_law_take") ["_law_pool_here", "_law_many_here"] (ct_law_take K)) : Fn P w K mg base 6 (He.ga K "_law_many") ["_law_pool_here", "_law_many_here"] (ct_law_many K) := by
  obtain ⟨fd, F⟩ := T.d_law_many
  refine fn_ok F sc_law_many (fun _ _ _ _ _ _ us hl => match us, hl with | [_, _], _ => rfl) ct2_len (fun cdv A outer s H E hr => ⟨_, (pss_cons (ps_set (i := 2) sc_law_many.nd rfl (by first | exact Or.inl rfl | exact Or.inr rfl) pe_str)
      (pss_cons (ps_set (i := 3) sc_law_many.nd rfl (by first | exact Or.inl rfl | exact Or.inr rfl) (pe_op op_addU (pv 2) pe_str))
      (pss_cons (ps_set (i := 4) sc_law_many.nd rfl (by first | exact Or.inl rfl | exact Or.inr rfl) (pe_ix ix_seq (pv 2) (pe_call (F_law_take.up (by decide)).ok hr rfl T.g_law_take.1 T.g_law_take.2 (F_law_take.up (by decide)).bn .nil (pass_own rfl rfl rfl rfl) (pa_cons (pv 0) (pa_cons pe_int pa_nil))) fun _ _ => rfl))
      (pss_cons (ps_for (passes_of rfl) rfl (pi_range1 rfl T.n_range (pa_cons (pe_call (F_law_take.up (by decide)).ok hr rfl T.g_law_take.1 T.g_law_take.2 (F_law_take.up (by decide)).bn .nil (pass_own rfl rfl rfl rfl) (pa_cons (pv 0) (pa_cons pe_int pa_nil))) pa_nil)) (pg_name (i := 5) sc_law_many.nd rfl (by first | exact Or.inl rfl | exact Or.inr rfl)) (pss_one (ps_set (i := 4) sc_law_many.nd rfl (by first | exact Or.inl rfl | exact Or.inr rfl) (pe_op op_addU (pv 4) (pe_ix ix_seq (pv 3) (pe_call (F_law_take.up (by decide)).ok hr rfl T.g_law_take.1 T.g_law_take.2 (F_law_take.up (by decide)).bn .nil (pass_own rfl rfl rfl rfl) (pa_cons (pv 0) (pa_cons pe_int pa_nil))) fun _ _ => rfl)))))
      (pss_cons (ps_set (i := 6) sc_law_many.nd rfl (by first | exact Or.inl rfl | exact Or.inr rfl) (pe_call (F_law_take.up (by decide)).ok hr rfl T.g_law_take.1 T.g_law_take.2 (F_law_take.up (by decide)).bn .nil (pass_own rfl rfl rfl rfl) (pa_cons (pv 0) (pa_cons (pe_op op_addU (pe_callB call_lenU rfl T.n_len (by decide +kernel) (pa_cons (pv 4) pa_nil)) pe_int) pa_nil))))
      (pss_cons (ps_set (i := 7) sc_law_many.nd rfl (by first | exact Or.inl rfl | exact Or.inr rfl) (pe_ifExp (pt_cmpR (op_eqP (by have := (hr).units; exact this)) (pv 6) pe_int (nomark _)) (pv 2) (pv 3)))
      (pss_cons (ps_set (i := 8) sc_law_many.nd rfl (by first | exact Or.inl rfl | exact Or.inr rfl) (pe_call (F_law_take.up (by decide)).ok hr rfl T.g_law_take.1 T.g_law_take.2 (F_law_take.up (by decide)).bn .nil (pass_own rfl rfl rfl rfl) (pa_cons (pv 0) (pa_cons pe_int pa_nil))))
      (pss_cons (ps_if (pt_cmpR (op_eqP (by have := (hr).units; exact this)) (pe_call (F_law_take.up (by decide)).ok hr rfl T.g_law_take.1 T.g_law_take.2 (F_law_take.up (by decide)).bn .nil (pass_own rfl rfl rfl rfl) (pa_cons (pv 0) (pa_cons pe_int pa_nil))) pe_int (nomark _))
      (pss_one (ps_ret (pe_lc (te := (tOp (rAddU K) (tOp (rIx K) (tVar 2) (tOp rModI (tOp (rAddU K) (tVar 8) (tOp rMulU (tC (.int 3)) (tVar 5))) (tC (.int 26)))) (tSl (rSlU K) (tVar 4) tNoPart (tPart (tCall (spC K (ct_law_take K)) [] (fun _ _ _ => False) (tCons (tVar 0) (tCons (tC (.int 8)) tNil))))))) (tt := tYes) (own := [("_law_k", 5)]) rfl sc_law_many.nd (pi_range1 rfl T.n_range (pa_cons (pv 1) pa_nil)) (blk_ok ["_law_pool_here", "_law_many_here", "_law_letters", "_law_signs", "_law_stem", "_law_k", "_law_place", "_law_told_here", "_law_start", "_law_names", "_law_sign"] (defScope s_law_many) rfl rfl (by decide +kernel)) (fun _ _ _ _ _ => (pg_name (i := 5) sc_law_many.nd rfl (by first | exact Or.inl rfl | exact Or.inr rfl))) (fun _ _ _ _ _ => pts_nil) (fun _ _ _ _ _ => (pe_op op_addU (pe_ix ix_seq (pv 2) (pe_op op_mod (pe_op op_addU (pv 8) (pe_op op_mulU pe_int (pv 5))) pe_int) fun _ _ => rfl) (pe_slice sl_U (pv 4) po_none (po_some (pe_call (F_law_take.up (by decide)).ok hr rfl T.g_law_take.1 T.g_law_take.2 (F_law_take.up (by decide)).bn .nil passes_no (pa_cons (pv 0) (pa_cons pe_int pa_nil))))))))))
      pss_nil)
      (pss_cons (ps_set (i := 9) sc_law_many.nd rfl (by first | exact Or.inl rfl | exact Or.inr rfl) (pe_lst pa_nil))
      (pss_cons (ps_for (passes_of rfl) rfl (pi_range1 rfl T.n_range (pa_cons (pv 1) pa_nil)) (pg_name (i := 5) sc_law_many.nd rfl (by first | exact Or.inl rfl | exact Or.inr rfl)) (pss_cons (ps_set (i := 10) sc_law_many.nd rfl (by first | exact Or.inl rfl | exact Or.inr rfl) (pe_ix ix_seq (pv 7) (pe_op op_mod (pe_op op_addU (pv 8) (pe_op op_mulU pe_int (pv 5))) (pe_callB call_lenU rfl T.n_len (by decide +kernel) (pa_cons (pv 7) pa_nil))) fun _ _ => rfl))
      (pss_one (ps_expr (pe_bm PySem.F.plainAttrs_list PySem.F.slot_list_append PySem.F.type_list_append mt_append (pv 9) (pa_cons (pe_op op_addU (pe_op op_addU (pe_slice sl_U (pv 4) po_none (po_some (pv 6))) (pv 10)) (pe_slice sl_U (pv 4) (po_some (pv 6)) po_none)) pa_nil))))))
      (pss_one (ps_ret (pv 9))))))))))))), fun ws ka out B F0 Q hC hR hX => ?_⟩)
  obtain ⟨s1, b1, rfl, a, p, n, m, rfl, rfl, rfl, hp, hn0, hn, hm0, hm, rfl⟩ := hC
  refine q_asg (ev_str.to (congrArg (fun z => W.val (.str z)) letters_tx)) ?_
  refine q_asg (ev_addT (ev_var rfl) (ev_str.to (congrArg (fun z => W.val (.str z)) digits_tx)) (by decide)) ?_
  have t0 := tk_lt p (m := 26) (by decide)
  obtain ⟨c0, hc0, hm1⟩ := sgn_at (l := letL) t0.1 (by rw [let_len]; exact t0.2)
  have hp1 : (tk p 26).2.Ok (n + 1) := tk_ok hp (by decide)
  refine q_asg (ev_ixT (ev_var rfl) (ev_take (kr := []) (ev_var rfl) ev_int (hp.up (by omega)) (by decide) (by decide)) (by decide) hc0) ?_
  have t1 := tk_lt (tk p 26).2 (m := 7) (by decide)
  have hp2 := tk_ok hp1 (m := 7) (by decide)
  refine q_forn (ei_range1 (ea1 (ev_take (kr := []) (ev_var rfl) ev_int (hp1.up (by omega)) (by decide) (by decide))) (by omega) (by omega)) (fun i ro ka => ∃ l p' v, ro = [some (.val (.adr a)), some (.val (.int m)), some (.val (.str (tx letL))), some (.val (.str (tx (letL ++ digL)))), some (.val (.str (tx l))), v, none, none, none, none, none] ∧ ka = [(a, .lst (Pl.ds p'))] ∧ p'.Ok (n + 2 + i) ∧ WdOk l (i + 1))
    ⟨[c0], _, none, rfl, rfl, hp2.up (by omega), ⟨c0, rfl, hm1⟩, fun x hx => by rw [List.mem_singleton.mp hx]; exact List.mem_append_left _ hm1, rfl⟩ (fun i ro ka _ => trivial) (fun i w ro2 ka2 ta' hw ⟨l, p', v, e1, e2, hp', hl⟩ => ?_) (fun ro2 ka2 ta' ⟨st, p1, v, e1, e2, hp1, hl⟩ _ => ?_)
  · subst e1 e2
    have hi : i < (tk (tk p 26).2 7).1.toNat := by
      have := (List.getElem?_eq_some_iff.mp hw).1
      rwa [List.length_map, List.length_range] at this
    have t2 := tk_lt p' (m := 36) (by decide)
    obtain ⟨c, hc, hm2⟩ := sgn_at (l := letL ++ digL) t2.1 (by rw [sig_len]; exact t2.2)
    refine g_asg (ev_addT (ev_var rfl) (ev_ixT (ev_var rfl) (ev_take (kr := []) (ev_var rfl) ev_int (hp'.up (by omega)) (by decide) (by decide)) (by decide) hc) (by rw [hl.len]; simp; omega)) (g_jp ⟨l ++ [c], _, _, rfl, rfl, (tk_ok hp' (by decide)).up (by push_cast; omega), ?_, fun x hx => ?_, by rw [List.length_append, hl.len]; rfl⟩)
    · obtain ⟨d, h1, h2⟩ := hl.hd
      exact ⟨d, head_app h1, h2⟩
    · rcases List.mem_append.mp hx with hx | hx
      · exact hl.sg x hx
      · rw [List.mem_singleton.mp hx]; exact hm2
  subst e1 e2
  rw [List.length_map, List.length_range] at hp1 hl
  have hp3 : p1.Ok (n + 9) := hp1.up (by omega)
  have hsl : st.length ≤ 7 := by have := hl.len; omega
  have t7 := tk_lt p1 (m := (st.length : Int) + 1) (by omega)
  have hp5 := tk_ok hp3 (m := (st.length : Int) + 1) (by omega)
  refine q_asg (ev_take (kr := []) (ev_var rfl) (ev_addI (ev_lenX (ev_var rfl) (by omega)) ev_int) (hp3.up (by omega)) (by omega) (by omega)) ?_
  generalize tk p1 ((st.length : Int) + 1) = q5 at *
  generalize htl : (if (q5.1 == 0) = true then letL else letL ++ digL) = tl
  have htl0 : 26 ≤ tl.length ∧ tl.length ≤ 36 := by
    rw [← htl]
    split <;> decide
  refine q_asg (w := .val (.str (tx tl))) (ev_if (et_test (ev_eqI (ev_var rfl) ev_int)) (fun hb => (ev_var rfl).to (by rw [← htl, if_pos hb])) (fun hb => (ev_var rfl).to (by rw [← htl, if_neg (by rw [hb]; exact Bool.false_ne_true)]))) ?_
  have hp6 := tk_ok hp5 (m := 36) (by decide)
  refine q_asg (ev_take (kr := []) (ev_var rfl) ev_int (hp5.up (by omega)) (by decide) (by decide)) ?_
  have t8 := tk_lt q5.2 (m := 36) (by decide)
  generalize tk q5.2 36 = q3 at *
  have hp7 := tk_ok hp6 (m := 3) (by decide)
  refine q_when (et_test (ev_eqI (ev_take (kr := []) (ev_var rfl) ev_int (hp6.up (by omega)) (by decide) (by decide)) ev_int)) (fun _ => ?_) (fun _ => ?_)
  · refine g_retR hR (evr_lc (ei_range1 (ea1 (ev_var rfl)) (by omega) (by omega)) (by decide) (by rw [List.length_map, List.length_range]; omega) (fun i acc k => ∃ ss p', acc = stD ss ∧ k = [(a, .lst (Pl.ds p'))] ∧ p'.Ok (n + 12 + i) ∧ ss.length = i ∧ (∀ s ∈ ss, isNm s = true) ∧ ∀ (j : Nat) (s : Str), ss[j]? = some s → s.cps.toList[0]? = letL[((q3.1 + 3 * (j : Int)) % 26).toNat]?) ⟨[], _, rfl, rfl, hp7.up (by omega), rfl, (fun s h => by cases h), fun j s h => by simp at h⟩ (fun i acc k _ => ⟨trivial, fun _ => trivial⟩) (fun i w acc k hw ⟨ss, p', e1, e2, hp', hl2, hs, hk⟩ => ?_)) (fun nd k ⟨acc, e0, ss, p', e1, e2, hp', hl2, hs, hk⟩ => ?_)
    · subst e1 e2
      have hi : i < m.toNat := by
        have := (List.getElem?_eq_some_iff.mp hw).1
        rwa [List.length_map, List.length_range] at this
      have hw2 : w = .val (.int (i : Int)) := by
        rw [List.getElem?_map, List.getElem?_range hi] at hw
        cases hw
        rfl
      subst hw2
      have hz : 0 ≤ (q3.1 + 3 * (i : Int)) % 26 := Int.emod_nonneg _ (by decide)
      have hz2 : (q3.1 + 3 * (i : Int)) % 26 < 26 := Int.emod_lt_of_pos _ (by decide)
      obtain ⟨c, hc, hm2⟩ := sgn_at (l := letL) hz (by rw [let_len]; exact hz2)
      have t6 := tk_lt p' (m := 8) (by decide)
      refine .inr ⟨_, _, .str (tx ([c] ++ st.take (tk p' 8).1.toNat)), et_yes, (ev_addT (ev_ixT (ev_var rfl) (ev_modI (ev_addI (ev_var rfl) (ev_mulL ev_int (ev_var rfl))) ev_int (by decide)) (by decide) hc) ((ev_slX (ev_var rfl) eo_none (eo_some (ev_take (kr := []) (ev_var rfl) ev_int (hp'.up (by omega)) (by decide) (by decide))) (by omega)).to (congrArg (fun z => W.val (.str (tx z))) (cut_to' t6.1))) (by rw [List.length_take]; simp; omega)), ss ++ [tx ([c] ++ st.take (tk p' 8).1.toNat)], _, stD_app ss [_], rfl, (tk_ok hp' (by decide)).up (by push_cast; omega), by rw [List.length_append, hl2]; rfl, fun s h => ?_, key_snoc hk (by rw [hl2, at_get hz hc]; rfl)⟩
      rcases List.mem_append.mp h with h | h
      · exact hs s h
      · rw [List.mem_singleton.mp h]
        refine nm_of ⟨c, rfl, hm2⟩ (fun x hx => ?_) ?_
        · rcases List.mem_append.mp hx with hx | hx
          · rw [List.mem_singleton.mp hx]; exact List.mem_append_left _ hm2
          · exact hl.sg x (List.mem_of_mem_take hx)
        · rw [List.length_append, List.length_take]
          simp
          omega
    · subst e1 e2
      rw [List.length_map, List.length_range] at hl2 hp'
      refine ⟨_, e0, ss, p', rfl, rfl, hp'.up (by omega), hl2, hs, key_nd hk fun i j h1 h2 => nd_inj let_nd ?_ ?_⟩
      · rw [let_len]; omega
      · omega
  refine q_asgN (evn_lst (ds := []) ea_nil (by decide)) (fun b => ?_)
  refine q_forn (ei_range1 (ea1 (ev_var rfl)) (by omega) (by omega)) (fun i ro ka => ∃ ss v v2, ro = [some (.val (.adr a)), some (.val (.int m)), some (.val (.str (tx letL))), some (.val (.str (tx (letL ++ digL)))), some (.val (.str (tx st))), v, some (.val (.int q5.1)), some (.val (.str (tx tl))), some (.val (.int q3.1)), some (.val (.adr b)), v2] ∧ ka = [(a, .lst (Pl.ds (tk q3.2 3).2)), (b, .lst (stD ss))] ∧ ss.length = i ∧ (∀ s ∈ ss, isNm s = true) ∧ ∀ (j : Nat) (s : Str), ss[j]? = some s → s.cps.toList[q5.1.toNat]? = tl[((q3.1 + 7 * (j : Int)) % (tl.length : Int)).toNat]?)
    ⟨[], _, none, rfl, rfl, rfl, (fun s h => by cases h), fun j s h => by simp at h⟩ (fun i ro ka _ => trivial) (fun i w ro2 ka2 ta' hw ⟨ss, v, v2, e1, e2, hl2, hs, hk⟩ => ?_) (fun ro2 ka2 ta' ⟨ss, v, v2, e1, e2, hl2, hs, hk⟩ _ => ?_)
  · subst e1 e2
    have hi : i < m.toNat := by
      have := (List.getElem?_eq_some_iff.mp hw).1
      rwa [List.length_map, List.length_range] at this
    have hw2 : w = .val (.int (i : Int)) := by
      rw [List.getElem?_map, List.getElem?_range hi] at hw
      cases hw
      rfl
    subst hw2
    have hz : 0 ≤ (q3.1 + 7 * (i : Int)) % (tl.length : Int) := Int.emod_nonneg _ (by omega)
    have hz2 : (q3.1 + 7 * (i : Int)) % (tl.length : Int) < tl.length := Int.emod_lt_of_pos _ (by omega)
    obtain ⟨c, hc, hm2⟩ := sgn_at (l := tl) hz hz2
    have hpl : q5.1 ≤ st.length := by omega
    refine q_asg (ev_ixT (ev_var rfl) (ev_modI (ev_addI (ev_var rfl) (ev_mulL ev_int (ev_var rfl))) (ev_lenX (ev_var rfl) (by omega)) (by omega)) (by omega) hc) ?_
    refine g_app (j0 := 1) (j := 1) (d := .str (tx (st.take q5.1.toNat ++ [c] ++ st.drop q5.1.toNat))) (ev_var rfl) rfl ((ev_addT (ev_addT (ev_slX (ev_var rfl) eo_none (eo_some (ev_var rfl)) (by omega)) (ev_var rfl) ?_) (ev_slX (ev_var rfl) (eo_some (ev_var rfl)) eo_none (by omega)) ?_).to ?_) rfl (by rw [stD_len]; omega) (g_jp ⟨ss ++ [tx (st.take q5.1.toNat ++ [c] ++ st.drop q5.1.toNat)], _, _, rfl, ?_, by rw [List.length_append, hl2]; rfl, fun s h => ?_, key_snoc hk ?_⟩)
    · have := cut_len st none (some q5.1)
      simp
      omega
    · have h1 := cut_len st none (some q5.1)
      have h2 := cut_len st (some q5.1) none
      rw [List.length_append]
      simp
      omega
    · rw [cut_to' t7.1, cut_from t7.1 hpl]
    · exact congrArg (fun z => [(a, Nd.lst (Pl.ds (tk q3.2 3).2)), (b, Nd.lst z)]) (stD_app ss [_])
    · rcases List.mem_append.mp h with h | h
      · exact hs s h
      · rw [List.mem_singleton.mp h]
        refine nm_put hl (by omega) (by omega) (fun h0 => ?_) ?_
        · have : (q5.1 == 0) = true := beq_iff_eq.mpr (by omega)
          rw [if_pos this] at htl
          rw [htl]
          exact hm2
        · rw [← htl] at hm2
          split at hm2
          · exact List.mem_append_left _ hm2
          · exact hm2
    · rw [hl2, at_get hz hc, tx_cps, List.append_assoc, List.getElem?_append_right (by rw [List.length_take]; omega), List.length_take, Nat.min_eq_left (by omega), Nat.sub_self]
      rfl
  · subst e1 e2
    rw [List.length_map, List.length_range] at hl2
    have hnd : ss.Nodup := key_nd hk fun i j h1 h2 => by
      have hl36 : tl = letL ∨ tl = letL ++ digL := by
        rw [← htl]
        split
        · exact .inl rfl
        · exact .inr rfl
      rcases hl36 with q | q
      · subst q
        rw [let_len]
        exact nd_inj let_nd (by rw [let_len]; omega) (by omega)
      · rw [q, sig_len]
        exact nd_inj sig_nd (by rw [sig_len]; omega) (by omega)
    exact Gp.frz (i := 9) (j := 1) rfl rfl (g_ret hR (ev_var rfl) ⟨ss, _, rfl, rfl, hp7.up (by omega), hl2, hs, hnd⟩)
end
def ct_law_mixed (K : PySem.W.Frag) : Ct := Ct2 fun s b ka out => ∃ a p n ds, s = .val (.adr a) ∧ b = .val (.lst ds) ∧ ka = [(a, .lst (Pl.ds p))] ∧ p.Ok n ∧ 0 ≤ n ∧ n ≤ 900000 ∧ ds.length ≤ 1000 ∧
  out = fun o k => ∃ es p', o = .ret (.lst es) ∧ k = [(a, .lst (Pl.ds p'))] ∧ p'.Ok (n + ds.length) ∧ es.Perm ds
section
variable {P : Program} {w : World} {K : PySem.W.Frag} {mg : Str → Option Value} {base : Heap}
theorem ok_law_mixed (T : Tx K mg) (F_law_take : Fn P w K mg base 4 (He.ga K "_law_take") ["_law_pool_here", "_law_many_here"] (ct_law_take K)) : Fn P w K mg base 6 (He.ga K "_law_mixed") ["_law_pool_here", "_law_things"] (ct_law_mixed K) := by
  obtain ⟨fd, F⟩ := T.d_law_mixed
  refine fn_ok F sc_law_mixed (fun _ _ _ _ _ _ us hl => match us, hl with | [_, _], _ => rfl) ct2_len (fun cdv A outer s H E hr => ⟨_, (pss_cons (ps_set (i := 2) sc_law_mixed.nd rfl (by first | exact Or.inl rfl | exact Or.inr rfl) (pe_callTy call_lstU rfl T.n_list (by decide +kernel) (pa_cons (pv 1) pa_nil)))
      (pss_cons (ps_set (i := 3) sc_law_mixed.nd rfl (by first | exact Or.inl rfl | exact Or.inr rfl) (pe_lst pa_nil))
      (pss_cons (ps_for (passes_of rfl) rfl (pi_range1 rfl T.n_range (pa_cons (pe_callB call_lenU rfl T.n_len (by decide +kernel) (pa_cons (pv 1) pa_nil)) pa_nil)) (pg_name (i := 4) sc_law_mixed.nd rfl (by first | exact Or.inl rfl | exact Or.inr rfl)) (pss_cons (ps_set (i := 5) sc_law_mixed.nd rfl (by first | exact Or.inl rfl | exact Or.inr rfl) (pe_call (F_law_take.up (by decide)).ok hr rfl T.g_law_take.1 T.g_law_take.2 (F_law_take.up (by decide)).bn .nil (pass_own rfl rfl rfl rfl) (pa_cons (pv 0) (pa_cons (pe_callB call_lenU rfl T.n_len (by decide +kernel) (pa_cons (pv 2) pa_nil)) pa_nil))))
      (pss_cons (ps_expr (pe_bm PySem.F.plainAttrs_list PySem.F.slot_list_append PySem.F.type_list_append mt_append (pv 3) (pa_cons (pe_ix ix_seq (pv 2) (pv 5) fun _ _ => rfl) pa_nil)))
      (pss_one (ps_set (i := 2) sc_law_mixed.nd rfl (by first | exact Or.inl rfl | exact Or.inr rfl) (pe_op op_addU (pe_slice sl_U (pv 2) po_none (po_some (pv 5))) (pe_slice sl_U (pv 2) (po_some (pe_op op_addU (pv 5) pe_int)) po_none)))))))
      (pss_one (ps_ret (pv 3)))))), fun ws ka out B F0 Q hC hR hX => ?_⟩)
  obtain ⟨s1, b1, rfl, a, p, n, ds, rfl, rfl, rfl, hp, hn0, hn, hl, rfl⟩ := hC
  refine q_asg (evn_cb (ea1 (ev_var rfl)) (rcn_lst .vl (.inl rfl))).lst ?_
  refine q_asgN (evn_lst (ds := []) ea_nil (by decide)) (fun b => ?_)
  refine q_forn (ei_range1 (ea1 (ev_len (ev_var rfl) .vl)) (by omega) (by omega)) (fun i ro ka => ∃ ls ms p' v v2, ro = [some (.val (.adr a)), some (.val (.lst ds)), some (.val (.lst ls)), some (.val (.adr b)), v, v2] ∧ ka = [(a, .lst (Pl.ds p')), (b, .lst ms)] ∧ p'.Ok (n + i) ∧ ms.length = i ∧ (ms ++ ls).Perm ds)
    ⟨ds, [], p, none, none, rfl, rfl, hp.up (by omega), rfl, List.Perm.refl _⟩ (fun i ro ka _ => trivial) (fun i w ro2 ka2 ta' hw ⟨ls, ms, p', v, v2, e1, e2, hp', hm, hpm⟩ => ?_) (fun ro2 ka2 ta' ⟨ls, ms, p', v, v2, e1, e2, hp', hm, hpm⟩ _ => ?_)
  · subst e1 e2
    have hi : i < ds.length := by
      have := (List.getElem?_eq_some_iff.mp hw).1
      rw [List.length_map, List.length_range] at this
      omega
    have hlen : i + ls.length = ds.length := by rw [← hm, ← List.length_append, hpm.length_eq]
    have t1 := tk_lt p' (m := (ls.length : Int)) (by omega)
    refine q_asg (ev_take (kr := [(b, .lst ms)]) (ev_var rfl) (ev_len (ev_var rfl) .vl) (hp'.up (by omega)) (by omega) (by omega)) ?_
    have o1 := tk_ok hp' (m := (ls.length : Int)) (by omega)
    generalize tk p' (ls.length : Int) = q at *
    have hlt : q.1.toNat < ls.length := by omega
    refine q_app (j0 := 1) (j := 1) (d := ls[q.1.toNat]) (ev_var rfl) rfl (ev_ixV (ev_var rfl) (ev_var rfl) .vl (atZ t1.1 (List.getElem?_eq_getElem hlt))) rfl (by omega) ?_
    refine g_asg (evn_op (evn_sl (ev_var rfl) eo_none (eo_some (ev_var rfl)) .vl).lst (evn_sl (ev_var rfl) (eo_some (ev_addI (ev_var rfl) ev_int)) eo_none .vl).lst (rvn_cat (b1 := false) (b2 := false) .vl .vl ?_)).lst (g_jp ⟨_, _, q.2, _, _, rfl, rfl, o1.up (by push_cast; omega), by rw [List.length_append, hm]; rfl, ?_⟩)
    · have h1 := cut_len ls none (some q.1)
      have h2 := cut_len ls (some (q.1 + 1)) none
      omega
    · rw [cut_to' t1.1, cut_from (by omega) (by omega)]
      have e3 : ls = ls.take q.1.toNat ++ ls[q.1.toNat] :: ls.drop (q.1.toNat + 1) := by rw [List.getElem_cons_drop, List.take_append_drop]
      have e4 : (q.1 + 1).toNat = q.1.toNat + 1 := by omega
      rw [e4, List.append_assoc]
      refine List.Perm.trans (List.Perm.append_left ms ?_) hpm
      exact (List.perm_middle (l₁ := ls.take q.1.toNat) (l₂ := ls.drop (q.1.toNat + 1)) (a := ls[q.1.toNat])).symm.trans (List.Perm.of_eq e3.symm)
  · subst e1 e2
    rw [List.length_map, List.length_range] at hp' hm
    have h0 : ls = [] := by
      have := hpm.length_eq
      rw [List.length_append] at this
      exact List.eq_nil_of_length_eq_zero (by omega)
    subst h0
    rw [List.append_nil] at hpm
    exact Gp.frz (i := 3) (j := 1) rfl rfl (g_ret hR (ev_var rfl) ⟨ms, p', rfl, rfl, hp'.up (by omega), hpm⟩)
end
theorem rwD_len (es : List Ln) : (rwD es).length = es.length := List.length_map _
theorem rwD_app (es fs : List Ln) : rwD (es ++ fs) = rwD es ++ rwD fs := List.map_append
/-- names as drawn for lanes -/
structure ToOk (ts : List Str) (m : Nat) : Prop where
  nm : ∀ s ∈ ts, isNm s = true
  nd : ts.Nodup
  le : ts.length ≤ m
  ge : min m 8 ≤ ts.length
/-- rows so far: their names stand in order among the first i told ones -/
structure FoOk (ps ts : List Str) (fs : List Ln) (i : Nat) : Prop where
  sub : (lnN fs).Sublist (ts.take i)
  st : ∀ r ∈ fs, r.2.1 ∈ ps ∧ r.2.2 ∈ ps
theorem FoOk.skip {ps ts : List Str} {fs : List Ln} {i : Nat} (h : FoOk ps ts fs i) : FoOk ps ts fs (i + 1) := ⟨h.sub.trans (List.take_sublist_take_left (Nat.le_succ i)), h.st⟩
theorem FoOk.add {ps ts : List Str} {fs : List Ln} {i : Nat} (h : FoOk ps ts fs i) {x p q : Str} (hx : ts[i]? = some x) (hp : p ∈ ps) (hq : q ∈ ps) : FoOk ps ts (fs ++ [(x, p, q)]) (i + 1) := by
  refine ⟨?_, fun r hr => ?_⟩
  · rw [take_succ_some hx]
    have e : lnN (fs ++ [(x, p, q)]) = lnN fs ++ [x] := List.map_append
    rw [e]
    exact h.sub.append (List.Sublist.refl _)
  · rcases List.mem_append.mp hr with hr | hr
    · exact h.st r hr
    · rw [List.mem_singleton.mp hr]; exact ⟨hp, hq⟩
theorem FoOk.len {ps ts : List Str} {fs : List Ln} {i : Nat} (h : FoOk ps ts fs i) : fs.length ≤ ts.length := by
  have := h.sub.length_le
  rw [lnN_len, List.length_take] at this
  omega
theorem rwD_perm : ∀ {fs : List Ln} {ds : List D}, ds.Perm (rwD fs) → ∃ es : List Ln, ds = rwD es ∧ es.Perm fs := fun {fs ds} h => by
  have key : ∀ (l : List D) (m : List D), l.Perm m → ∀ fs : List Ln, m = rwD fs → ∃ es : List Ln, l = rwD es ∧ es.Perm fs := by
    intro l m h
    induction h with
    | nil =>
      intro fs e
      cases fs with
      | nil => exact ⟨[], rfl, List.Perm.refl _⟩
      | cons _ _ => cases e
    | cons x _ ih =>
      intro fs e
      cases fs with
      | nil => cases e
      | cons r fs =>
        obtain ⟨e1, e2⟩ := List.cons.inj e
        obtain ⟨es, h1, h2⟩ := ih fs e2
        exact ⟨r :: es, by rw [h1, e1]; rfl, h2.cons r⟩
    | swap x y l =>
      intro fs e
      match fs, e with
      | r :: r2 :: fs, e =>
        obtain ⟨e1, e2⟩ := List.cons.inj e
        obtain ⟨e3, e4⟩ := List.cons.inj e2
        exact ⟨r2 :: r :: fs, by rw [e1, e3, e4]; rfl, List.Perm.swap _ _ _⟩
    | trans _ _ ih1 ih2 =>
      intro fs e
      obtain ⟨es, h1, h2⟩ := ih2 fs e
      obtain ⟨es2, h3, h4⟩ := ih1 es h1
      exact ⟨es2, h3, h4.trans h2⟩
  exact key ds _ h fs rfl
theorem lnN_perm {es fs : List Ln} (h : es.Perm fs) : (lnN es).Perm (lnN fs) := h.map _
def ct_law_line_net (K : PySem.W.Frag) : Ct := Ct3 fun s b c ka out => ∃ a p n m l, s = .val (.adr a) ∧ b = .val (.int m) ∧ c = .val (.int l) ∧ ka = [(a, .lst (Pl.ds p))] ∧ p.Ok n ∧ 0 ≤ n ∧ n ≤ 800000 ∧ 1 ≤ m ∧ m ≤ 10 ∧ m - 1 ≤ l ∧ l ≤ 26 ∧
  out = fun o k => ∃ ps es p', o = .ret (PtD ps es) ∧ k = [(a, .lst (Pl.ds p'))] ∧ p'.Ok (n + 300) ∧ PtOk ps es ∧ ps ≠ [] ∧ (ps.length : Int) ≤ m ∧ (es.length : Int) ≤ l
section
variable {P : Program} {w : World} {K : PySem.W.Frag} {mg : Str → Option Value} {base : Heap}
theorem ok_law_line_net (T : Tx K mg) (F_law_take : Fn P w K mg base 4 (He.ga K "_law_take") ["_law_pool_here", "_law_many_here"] (ct_law_take K)) (F_law_many : Fn P w K mg base 6 (He.ga K "_law_many") ["_law_pool_here", "_law_many_here"] (ct_law_many K)) (F_law_mixed : Fn P w K mg base 6 (He.ga K "_law_mixed") ["_law_pool_here", "_law_things"] (ct_law_mixed K)) : Fn P w K mg base 8 (He.ga K "_law_line_net") ["_law_pool_here", "_law_most", "_law_lanes_here"] (ct_law_line_net K) := by
  obtain ⟨fd, F⟩ := T.d_law_line_net
  refine fn_ok F sc_law_line_net (fun _ _ _ _ _ _ us hl => match us, hl with | [_, _, _], _ => rfl) ct3_len (fun cdv A outer s H E hr => ⟨_, (pss_cons (ps_set (i := 3) sc_law_line_net.nd rfl (by first | exact Or.inl rfl | exact Or.inr rfl) (pe_slice sl_U (pe_call (F_law_many.up (by decide)).ok hr rfl T.g_law_many.1 T.g_law_many.2 (F_law_many.up (by decide)).bn .nil (pass_own rfl rfl rfl rfl) (pa_cons (pv 0) (pa_cons pe_int pa_nil))) po_none (po_some (pe_op op_addU pe_int (pe_call (F_law_take.up (by decide)).ok hr rfl T.g_law_take.1 T.g_law_take.2 (F_law_take.up (by decide)).bn .nil (pass_own rfl rfl rfl rfl) (pa_cons (pv 0) (pa_cons (pv 1) pa_nil)))))))
      (pss_cons (ps_set (i := 4) sc_law_line_net.nd rfl (by first | exact Or.inl rfl | exact Or.inr rfl) (pe_call (F_law_many.up (by decide)).ok hr rfl T.g_law_many.1 T.g_law_many.2 (F_law_many.up (by decide)).bn .nil (pass_own rfl rfl rfl rfl) (pa_cons (pv 0) (pa_cons (pv 2) pa_nil))))
      (pss_cons (ps_if (pt_cmpR (op_eqP (by have := (hr).units; exact this)) (pe_call (F_law_take.up (by decide)).ok hr rfl T.g_law_take.1 T.g_law_take.2 (F_law_take.up (by decide)).bn .nil (pass_own rfl rfl rfl rfl) (pa_cons (pv 0) (pa_cons pe_int pa_nil))) pe_int (nomark _))
      (pss_one (ps_set (i := 4) sc_law_line_net.nd rfl (by first | exact Or.inl rfl | exact Or.inr rfl) (pe_slice sl_U (pe_op op_addU (pv 3) (pe_lc (te := (tVar 5)) (tt := (tTest (tOp (rNiU K) (tVar 5) (tVar 3)))) (own := [("_law_name", 5)]) rfl sc_law_line_net.nd (pi_seq (pv 4)) (blk_ok ["_law_pool_here", "_law_most", "_law_lanes_here", "_law_posts", "_law_told_here", "_law_name", "_law_found", "_law_k", "_law_first", "_law_second"] (defScope s_law_line_net) rfl rfl (by decide +kernel)) (fun _ _ _ _ _ => (pg_name (i := 5) sc_law_line_net.nd rfl (by first | exact Or.inl rfl | exact Or.inr rfl))) (fun _ _ _ _ _ => (pts_one (pt_cmpR op_niU (pv 5) (pv 3) (by with_unfolding_all rfl)))) (fun _ _ _ _ _ => (pv 5)))) po_none (po_some (pv 2)))))
      pss_nil)
      (pss_cons (ps_set (i := 6) sc_law_line_net.nd rfl (by first | exact Or.inl rfl | exact Or.inr rfl) (pe_lst pa_nil))
      (pss_cons (ps_for (passes_of rfl) rfl (pi_range1 rfl T.n_range (pa_cons (pe_op op_sub (pe_callB call_lenU rfl T.n_len (by decide +kernel) (pa_cons (pv 3) pa_nil)) pe_int) pa_nil)) (pg_name (i := 7) sc_law_line_net.nd rfl (by first | exact Or.inl rfl | exact Or.inr rfl)) (pss_one (ps_if (pt_cmpR op_gt (pe_call (F_law_take.up (by decide)).ok hr rfl T.g_law_take.1 T.g_law_take.2 (F_law_take.up (by decide)).bn .nil (pass_own rfl rfl rfl rfl) (pa_cons (pv 0) (pa_cons pe_int pa_nil))) pe_int (nomark _))
      (pss_one (ps_expr (pe_bm PySem.F.plainAttrs_list PySem.F.slot_list_append PySem.F.type_list_append mt_append (pv 6) (pa_cons (pe_tup (pa_cons (pe_ix ix_seq (pv 4) (pv 7) fun _ _ => rfl) (pa_cons (pe_ix ix_seq (pv 3) (pv 7) fun _ _ => rfl) (pa_cons (pe_ix ix_seq (pv 3) (pe_op op_addU (pv 7) pe_int) fun _ _ => rfl) pa_nil)))) pa_nil))))
      pss_nil)))
      (pss_cons (ps_for (passes_of rfl) rfl (pi_seq (pe_slice sl_U (pv 4) (po_some (pe_op op_sub (pe_callB call_lenU rfl T.n_len (by decide +kernel) (pa_cons (pv 3) pa_nil)) pe_int)) po_none)) (pg_name (i := 5) sc_law_line_net.nd rfl (by first | exact Or.inl rfl | exact Or.inr rfl)) (pss_one (ps_if (pt_cmpR op_gt (pe_call (F_law_take.up (by decide)).ok hr rfl T.g_law_take.1 T.g_law_take.2 (F_law_take.up (by decide)).bn .nil (pass_own rfl rfl rfl rfl) (pa_cons (pv 0) (pa_cons pe_int pa_nil))) pe_int (nomark _))
      (pss_cons (ps_set (i := 8) sc_law_line_net.nd rfl (by first | exact Or.inl rfl | exact Or.inr rfl) (pe_call (F_law_take.up (by decide)).ok hr rfl T.g_law_take.1 T.g_law_take.2 (F_law_take.up (by decide)).bn .nil (pass_own rfl rfl rfl rfl) (pa_cons (pv 0) (pa_cons (pe_callB call_lenU rfl T.n_len (by decide +kernel) (pa_cons (pv 3) pa_nil)) pa_nil))))
      (pss_cons (ps_set (i := 9) sc_law_line_net.nd rfl (by first | exact Or.inl rfl | exact Or.inr rfl) (pe_call (F_law_take.up (by decide)).ok hr rfl T.g_law_take.1 T.g_law_take.2 (F_law_take.up (by decide)).bn .nil (pass_own rfl rfl rfl rfl) (pa_cons (pv 0) (pa_cons (pe_callB call_lenU rfl T.n_len (by decide +kernel) (pa_cons (pv 3) pa_nil)) pa_nil))))
      (pss_cons (ps_if (PW.pt (pw_and (pt_cmpR op_gt (pv 8) (pv 9) (nomark _)) (pw_and1 (pt_cmpR op_gt (pe_call (F_law_take.up (by decide)).ok hr rfl T.g_law_take.1 T.g_law_take.2 (F_law_take.up (by decide)).bn .nil (pass_own rfl rfl rfl rfl) (pa_cons (pv 0) (pa_cons pe_int pa_nil))) pe_int (nomark _)))))
      (pss_one (ps_par (i := 8) (j := 9) (by rfl) sc_law_line_net.nd rfl rfl (by decide) rfl rfl (pa_cons (pv 9) (pa_cons (pv 8) pa_nil)) (by rfl)))
      pss_nil)
      (pss_one (ps_expr (pe_bm PySem.F.plainAttrs_list PySem.F.slot_list_append PySem.F.type_list_append mt_append (pv 6) (pa_cons (pe_tup (pa_cons (pv 5) (pa_cons (pe_ix ix_seq (pv 3) (pv 8) fun _ _ => rfl) (pa_cons (pe_ix ix_seq (pv 3) (pv 9) fun _ _ => rfl) pa_nil)))) pa_nil)))))))
      pss_nil)))
      (pss_one (ps_ret (pe_lst (pa_cons (pv 3) (pa_cons (pe_call (F_law_mixed.up (by decide)).ok hr rfl T.g_law_mixed.1 T.g_law_mixed.2 (F_law_mixed.up (by decide)).bn .nil (pass_own rfl rfl rfl rfl) (pa_cons (pv 0) (pa_cons (pv 6) pa_nil))) pa_nil))))))))))), fun ws ka out B F0 Q hC hR hX => ?_⟩)
  obtain ⟨s1, b1, c1, rfl, a, p, n, m, l, rfl, rfl, rfl, rfl, hp, hn0, hn, hm1, hm, hml, hl, rfl⟩ := hC
  have hl0 : 0 ≤ l := by omega
  refine q_asgR (P := fun w k => ∃ ps p', w = .val (.lst (stD ps)) ∧ k = [(a, .lst (Pl.ds p'))] ∧ p'.Ok (n + 51) ∧ 1 ≤ ps.length ∧ (ps.length : Int) ≤ m ∧ (∀ s ∈ ps, isNm s = true) ∧ ps.Nodup) (evr_slL (evr_call (k1 := [(a, .lst (Pl.ds p))]) [] (ea2 (ev_var rfl) ev_int) ⟨_, _, rfl, a, p, n, 10, rfl, rfl, rfl, hp, hn0, by omega, by decide, by decide, rfl⟩ (fun o k ⟨ss, p', h, _⟩ => ⟨_, h⟩)) ?hP) (fun w k1 ⟨ps, p1, e1, e2, hp1, hpl0, hpl, hpn, hpd⟩ => ?go)
  case hP =>
    rintro w k ⟨d, k2, ⟨ss, p', e1, e2, hp', hsl, hsn, hsd⟩, e3, e4⟩
    cases e1
    subst e2 e3 e4
    have t1 := tk_lt p' (m := m) (by omega)
    have hp2 := tk_ok hp' (m := m) (by omega)
    have hsl : ss.length = 10 := hsl
    refine ⟨stD ss, none, some (1 + (tk p' m).1), _, _, rfl, eo_none, eo_some (ev_addI ev_int (ev_take (kr := []) (ev_var rfl) (ev_var rfl) (hp'.up (by omega)) (by omega) (by omega))), ss.take (1 + (tk p' m).1).toNat, _, congrArg (fun z => W.val (.lst z)) ((cut_to' (by omega)).trans (stD_take ss _)), rfl, hp2.up (by omega), ?_, ?_, fun s hs => hsn s (List.mem_of_mem_take hs), (List.take_sublist _ _).nodup hsd⟩
    · rw [List.length_take]; omega
    · rw [List.length_take]; omega
  case go =>
  subst e1 e2
  refine q_call (kr := []) (k1 := [(a, .lst (Pl.ds p1))]) (ea2 (ev_var rfl) (ev_var rfl)) ⟨_, _, rfl, a, p1, n + 51, l, rfl, rfl, rfl, hp1, by omega, by omega, hl0, hl, rfl⟩ (fun o k ⟨ss, p', h, _⟩ => ⟨_, h⟩) ?_
  rintro _ _ ⟨ts, p3, e, rfl, hp3, hts, htn, htd⟩
  cases e
  have hp4 := tk_ok hp3 (m := 3) (by decide)
  refine q_whenI (fun ro ka => ∃ (ts : List Str) (p' : Pl) (v : Option W), ro = [some (.val (.adr a)), some (.val (.int m)), some (.val (.int l)), some (.val (.lst (stD ps))), some (.val (.lst (stD ts))), v, none, none, none, none] ∧ ka = [(a, .lst (Pl.ds p'))] ∧ p'.Ok (n + 102) ∧ ts.length = l.toNat ∧ (∀ s ∈ ts, isNm s = true) ∧ ts.Nodup)
    (et_test (ev_eqI (ev_take (kr := []) (ev_var rfl) ev_int (hp3.up (by omega)) (by decide) (by decide)) ev_int)) (fun hb nx k => ?t1) (fun hb => ⟨ts, _, none, rfl, rfl, hp4.up (by omega), hts, htn, htd⟩) (fun ro2 ka2 ⟨ts, p4, v, e1, e2, hp4, hts, htn, htd⟩ => ?go)
  case t1 =>
    have hmem : ∀ s, s ∈ ps ++ (ts.filter fun s => !decide (s ∈ ps)) → s ∈ ps ∨ s ∈ ts := fun s hs => (List.mem_append.mp hs).imp id fun z => (List.mem_filter.mp z).1
    have hnd2 : (ps ++ (ts.filter fun s => !decide (s ∈ ps))).Nodup := by
      rw [List.nodup_append]
      refine ⟨hpd, htd.filter _, fun x hx y hy z => ?_⟩
      have := (List.mem_filter.mp hy).2
      rw [Bool.not_eq_true', decide_eq_false_iff_not] at this
      exact this (z ▸ hx)
    have hsub : ts.length ≤ (ps ++ (ts.filter fun s => !decide (s ∈ ps))).length := sub_len htd fun x hx => by
      by_cases h : x ∈ ps
      · exact List.mem_append_left _ h
      · exact List.mem_append_right _ (List.mem_filter.mpr ⟨hx, by rw [decide_eq_false h]; rfl⟩)
    have hfl := List.length_filter_le (fun s => !decide (s ∈ ps)) ts
    refine g_asg ((evn_sl (w := .val (.lst (stD (ps ++ (ts.filter fun s => !decide (s ∈ ps)))))) ((evn_op (ev_var rfl) (evn_filt (xs := ts) (g := fun s => W.val (.str s)) (f := fun s => D.str s) (p := fun s => !decide (s ∈ ps)) (ei_strs (ev_var rfl)) (by decide) (by omega) ⟨trivial, fun _ => trivial⟩ (fun s hs => et_test (ev_niL (ev_var rfl) (ev_var rfl) .vl)) (fun s hs _ => ev_var rfl)).lst (rvn_cat (b1 := false) (b2 := false) .vl .vl (by rw [stD_len, List.length_map]; omega))).lst.to (congrArg (fun z => W.val (.lst z)) (stD_app ps _))) eo_none (eo_some (ev_var rfl)) .vl).lst.to (congrArg (fun z => W.val (.lst z)) ((cut_to' hl0).trans (stD_take _ _)))) (k _ _ ⟨_, _, _, rfl, rfl, hp4.up (by omega), ?_, fun s hs => ?_, (List.take_sublist _ _).nodup hnd2⟩)
    · rw [List.length_take]; omega
    · exact (hmem s (List.mem_of_mem_take hs)).elim (hpn s) (htn s)
  case go =>
  subst e1 e2
  refine q_asgN (evn_lst (ds := []) ea_nil (by decide)) (fun c => ?_)
  have hL1 : (0 : Int) < (((stD ps).length : Nat) : Int) := by rw [stD_len]; omega
  refine q_forn (ei_range1 (ea1 (ev_subI (ev_len (ev_var rfl) .vl) ev_int)) (by rw [stD_len]; omega) (by rw [stD_len]; omega)) (fun i ro ka => ∃ (fs : List Ln) (p' : Pl) (v7 : Option W), ro = [some (.val (.adr a)), some (.val (.int m)), some (.val (.int l)), some (.val (.lst (stD ps))), some (.val (.lst (stD ts))), v, some (.val (.adr c)), v7, none, none] ∧ ka = [(a, .lst (Pl.ds p')), (c, .lst (rwD fs))] ∧ p'.Ok (n + 102 + i) ∧ FoOk ps ts fs i)
    ⟨[], p4, none, rfl, rfl, hp4.up (by omega), List.Sublist.refl _, fun _ h => by cases h⟩ (fun i ro ka _ => trivial) (fun i w ro2 ka2 ta' hw ⟨fs, p', v7, e1, e2, hp', hfo⟩ => ?l1) (fun ro2 ka2 ta' ⟨fs, p', v7, e1, e2, hp', hfo⟩ _ => ?go)
  case l1 =>
    subst e1 e2
    rw [List.getElem?_map] at hw
    obtain ⟨i', hi', rfl⟩ := Option.map_eq_some_iff.mp hw
    obtain ⟨hi1, hi2⟩ := List.getElem?_eq_some_iff.mp hi'
    rw [List.getElem_range] at hi2
    subst hi2
    rw [List.length_range, stD_len] at hi1
    have hi2 : i + 1 < ps.length := by omega
    have hi3 : i < ts.length := by omega
    have hfl := hfo.len
    have o1 := tk_ok hp' (m := 6) (by decide)
    refine g_if (et_test (ev_gt (ev_take (kr := [(c, .lst (rwD fs))]) (ev_var rfl) ev_int (hp'.up (by omega)) (by decide) (by decide)) ev_int)) (fun hb => ?_) (fun hb => g_next (g_jp ⟨fs, _, _, rfl, rfl, o1.up (by push_cast; omega), hfo.skip⟩))
    refine g_app (j0 := 1) (j := 1) (d := rwL (ts[i], ps[i], ps[i + 1])) (ev_var rfl) rfl (ev_tup (ds := [.str ts[i], .str ps[i], .str ps[i + 1]]) (ea3 (ev_ixV (ev_var rfl) (ev_var rfl) .vl (atI_nat (stD_get (List.getElem?_eq_getElem hi3)))) (ev_ixV (ev_var rfl) (ev_var rfl) .vl (atI_nat (stD_get (List.getElem?_eq_getElem (by omega))))) (ev_ixV (ev_var rfl) ((ev_addI (ev_var rfl) ev_int).to (congrArg (fun z => W.val (.int z)) (show (i : Int) + 1 = ((i + 1 : Nat) : Int) by push_cast; rfl))) .vl (atI_nat (stD_get (List.getElem?_eq_getElem hi2))))) (show 3 ≤ 100000 by decide)) rfl (by rw [rwD_len]; omega)
      (g_jp ⟨fs ++ [(ts[i], ps[i], ps[i + 1])], _, _, rfl, by rw [rwD_app]; rfl, o1.up (by push_cast; omega), hfo.add (List.getElem?_eq_getElem hi3) (List.getElem_mem _) (List.getElem_mem _)⟩)
  case go =>
  subst e1 e2
  rw [List.length_map, List.length_range, stD_len] at hp' hfo
  have hj : (((ps.length : Nat) : Int) - 1).toNat = ps.length - 1 := by omega
  rw [hj] at hp' hfo
  refine q_forn (ei_strs (ss := ts.drop (ps.length - 1)) ((evn_sl (ev_var rfl) (eo_some (ev_subI (ev_len (ev_var rfl) .vl) ev_int)) eo_none .vl).lst.to (congrArg (fun z => W.val (.lst z)) ((cut_from (by rw [stD_len]; omega) (by rw [stD_len, stD_len]; omega)).trans ?hd)))) (fun i ro ka => ∃ (fs' : List Ln) (p' : Pl) (v v7 v8 v9 : Option W), ro = [some (.val (.adr a)), some (.val (.int m)), some (.val (.int l)), some (.val (.lst (stD ps))), some (.val (.lst (stD ts))), v, some (.val (.adr c)), v7, v8, v9] ∧ ka = [(a, .lst (Pl.ds p')), (c, .lst (rwD fs'))] ∧ p'.Ok (n + 112 + 4 * i) ∧ FoOk ps ts fs' (ps.length - 1 + i))
    ⟨fs, p', v, v7, none, none, rfl, rfl, hp'.up (by omega), hfo⟩ (fun i ro ka _ => trivial) (fun i w ro2 ka2 ta' hw ⟨fs', p', v, v7, v8, v9, e1, e2, hp', hfo⟩ => ?l2) (fun ro2 ka2 ta' ⟨fs', p', v, v7, v8, v9, e1, e2, hp', hfo⟩ _ => ?go)
  case hd =>
    rw [stD_len, hj]
    unfold stD
    rw [List.map_drop]
  case l2 =>
    subst e1 e2
    rw [List.getElem?_map] at hw
    obtain ⟨x, hx, rfl⟩ := Option.map_eq_some_iff.mp hw
    rw [List.getElem?_drop] at hx
    have hi : ps.length - 1 + i < ts.length := (List.getElem?_eq_some_iff.mp hx).1
    have hfl' := hfo.len
    have o1 := tk_ok hp' (m := 5) (by decide)
    have hL2 : (((stD ps).length : Nat) : Int) ≤ 100000000 := by rw [stD_len]; omega
    refine g_if (et_test (ev_gt (ev_take (kr := [(c, .lst (rwD fs'))]) (ev_var rfl) ev_int (hp'.up (by omega)) (by decide) (by decide)) ev_int)) (fun hb => ?_) (fun hb => g_next (g_jp ⟨fs', _, _, _, _, _, rfl, rfl, o1.up (by push_cast; omega), hfo.skip⟩))
    generalize tk p' 5 = q1 at *
    have t2 := tk_lt q1.2 hL1
    have o2 := tk_ok o1 hL1
    refine q_asg (ev_take (kr := [(c, .lst (rwD fs'))]) (ev_var rfl) (ev_len (ev_var rfl) .vl) (o1.up (by omega)) hL1 hL2) ?_
    generalize tk q1.2 (((stD ps).length : Nat) : Int) = q2 at *
    have t3 := tk_lt q2.2 hL1
    have o3 := tk_ok o2 hL1
    refine q_asg (ev_take (kr := [(c, .lst (rwD fs'))]) (ev_var rfl) (ev_len (ev_var rfl) .vl) (o2.up (by omega)) hL1 hL2) ?_
    generalize tk q2.2 (((stD ps).length : Nat) : Int) = q3 at *
    rw [stD_len] at t2 t3
    refine q_whenRI (R := fun b k => ∃ p', k = [(a, .lst (Pl.ds p')), (c, .lst (rwD fs'))] ∧ p'.Ok (n + 112 + 4 * i + 4)) (fun ro ka => ∃ (p' : Pl) (u1 u2 : Int), ro = [some (.val (.adr a)), some (.val (.int m)), some (.val (.int l)), some (.val (.lst (stD ps))), some (.val (.lst (stD ts))), some (.val (.str x)), some (.val (.adr c)), v7, some (.val (.int u1)), some (.val (.int u2))] ∧ ka = [(a, .lst (Pl.ds p')), (c, .lst (rwD fs'))] ∧ p'.Ok (n + 112 + 4 * i + 4) ∧ 0 ≤ u1 ∧ u1 < ps.length ∧ 0 ≤ u2 ∧ u2 < ps.length)
      (etr_and (et_test (ev_gt (ev_var rfl) (ev_var rfl))) (fun _ => ⟨_, rfl, o3.up (by omega)⟩) (fun _ => (et_test (ev_gt (ev_take (kr := [(c, .lst (rwD fs'))]) (ev_var rfl) ev_int (o3.up (by omega)) (by decide) (by decide)) ev_int)).toTR ⟨_, rfl, (tk_ok o3 (by decide)).up (by omega)⟩)) (fun k ⟨p', e, hp'⟩ nx kk => ?sw) (fun k ⟨p', e, hp'⟩ => ⟨p', _, _, rfl, e, hp', t2.1, t2.2, t3.1, t3.2⟩) (fun ro2 ka2 ⟨p', u1, u2, e1, e2, hp', h1, h2, h3, h4⟩ => ?ap)
    case sw =>
      subst e
      exact g_par (ea2 (ev_var rfl) (ev_var rfl)) (kk _ _ ⟨p', _, _, rfl, rfl, hp', t3.1, t3.2, t2.1, t2.2⟩)
    case ap =>
      subst e1 e2
      have g1 : u1.toNat < ps.length := by omega
      have g2 : u2.toNat < ps.length := by omega
      refine g_app (j0 := 1) (j := 1) (d := rwL (x, ps[u1.toNat], ps[u2.toNat])) (ev_var rfl) rfl (ev_tup (ds := [.str x, .str ps[u1.toNat], .str ps[u2.toNat]]) (ea3 (ev_var rfl) (ev_ixV (ev_var rfl) (ev_var rfl) .vl (atZ h1 (stD_get (List.getElem?_eq_getElem g1)))) (ev_ixV (ev_var rfl) (ev_var rfl) .vl (atZ h3 (stD_get (List.getElem?_eq_getElem g2))))) (show 3 ≤ 100000 by decide)) rfl (by rw [rwD_len]; omega)
        (g_jp ⟨fs' ++ [(x, ps[u1.toNat], ps[u2.toNat])], _, _, _, _, _, rfl, by rw [rwD_app]; rfl, hp'.up (by push_cast; omega), hfo.add hx (List.getElem_mem _) (List.getElem_mem _)⟩)
  case go =>
  subst e1 e2
  have hle := hfo.len
  have hts2 : ts.length ≤ 26 := by omega
  refine Gp.frz (i := 6) (j := 1) rfl rfl ?_
  rw [List.length_map, List.length_drop] at hp' hfo
  have hp'' : p'.Ok (n + 220) := hp'.up (by omega)
  refine g_retR hR (evnr_l2 (ev_var rfl) (evr_call (k1 := [(a, .lst (Pl.ds p'))]) [] (ea2 (ev_var rfl) (ev_var rfl)) ⟨_, _, rfl, a, p', n + 220, rwD fs', rfl, rfl, rfl, hp'', by omega, by omega, by rw [rwD_len]; omega, rfl⟩ (fun o k ⟨es, p', h, _⟩ => ⟨_, h⟩)) (R := fun nd k => ∃ ds, nd = .lst [.lst (stD ps), .lst ds] ∧ ∃ p', k = [(a, .lst (Pl.ds p'))] ∧ p'.Ok (n + 220 + 26) ∧ ds.Perm (rwD fs')) fun w k ⟨d, k2, ⟨es, p', e1, e2, e3, e4⟩, e5, e6⟩ => ?_) (fun nd k ⟨ds, e1, p', e2, e3, e4⟩ => ?_)
  · cases e1
    subst e2 e5 e6
    exact ⟨_, rfl, es, rfl, p', rfl, e3.up (by rw [rwD_len]; omega), e4⟩
  · obtain ⟨es, rfl, hperm⟩ := rwD_perm e4
    refine ⟨_, e1, ps, es, p', rfl, e2, e3.up (by omega), ⟨hpn, hpd, fun r hr => ?_, ?_, fun r hr => hfo.st r (hperm.mem_iff.mp hr), by omega, ?_⟩, ?_, hpl, ?_⟩
    · exact htn _ (List.mem_of_mem_take (hfo.sub.subset (List.mem_map.mpr ⟨r, hperm.mem_iff.mp hr, rfl⟩)))
    · exact (lnN_perm hperm).nodup_iff.mpr (hfo.sub.nodup ((List.take_sublist _ _).nodup htd))
    · rw [hperm.length_eq]; omega
    · intro z
      rw [z] at hpl0
      exact absurd hpl0 (by decide)
    · rw [hperm.length_eq]; omega
end
theorem pick4 {x i : Int} (h0 : 0 ≤ i) (h4 : i < 4) : ∃ z, atI [D.int 0, .int 0, .int 0, .int x] i = some (.int z) ∧ (z = 0 ∨ z = x) := by
  rcases (by omega : i = 0 ∨ i = 1 ∨ i = 2 ∨ i = 3) with rfl | rfl | rfl | rfl
  · exact ⟨0, rfl, .inl rfl⟩
  · exact ⟨0, rfl, .inl rfl⟩
  · exact ⟨0, rfl, .inl rfl⟩
  · exact ⟨x, rfl, .inr rfl⟩
theorem pick4b {i : Int} (h0 : 0 ≤ i) (h4 : i < 4) : ∃ z : Nat, atI [D.int 0, .int 1, .int 1, .int 2] i = some (.int (z : Int)) ∧ z ≤ 2 := by
  rcases (by omega : i = 0 ∨ i = 1 ∨ i = 2 ∨ i = 3) with rfl | rfl | rfl | rfl
  · exact ⟨0, rfl, by decide⟩
  · exact ⟨1, rfl, by decide⟩
  · exact ⟨1, rfl, by decide⟩
  · exact ⟨2, rfl, by decide⟩
def ct_law_course (K : PySem.W.Frag) : Ct := Ct2 fun s b ka out => ∃ a p n ps es, s = .val (.adr a) ∧ b = .val (PtD ps es) ∧ ka = [(a, .lst (Pl.ds p))] ∧ p.Ok n ∧ 0 ≤ n ∧ n ≤ 800000 ∧ ps ≠ [] ∧ ps.length ≤ 100 ∧
  out = fun o k => ∃ st gs p', o = .ret (.tup [.str st, .lst (stD gs)]) ∧ k = [(a, .lst (Pl.ds p'))] ∧ p'.Ok (n + 10) ∧ st ∈ ps ∧ (∀ g ∈ gs, g ∈ ps) ∧ gs.length ≤ 3
section
variable {P : Program} {w : World} {K : PySem.W.Frag} {mg : Str → Option Value} {base : Heap}
theorem ok_law_course (T : Tx K mg) (F_law_take : Fn P w K mg base 4 (He.ga K "_law_take") ["_law_pool_here", "_law_many_here"] (ct_law_take K)) : Fn P w K mg base 6 (He.ga K "_law_course") ["_law_pool_here", "_law_parts"] (ct_law_course K) := by
  obtain ⟨fd, F⟩ := T.d_law_course
  refine fn_ok F sc_law_course (fun _ _ _ _ _ _ us hl => match us, hl with | [_, _], _ => rfl) ct2_len (fun cdv A outer s H E hr => ⟨_, (pss_cons (ps_set (i := 2) sc_law_course.nd rfl (by first | exact Or.inl rfl | exact Or.inr rfl) (pe_ix ix_seq (pv 1) pe_int fun _ _ => rfl))
      (pss_cons (ps_set (i := 3) sc_law_course.nd rfl (by first | exact Or.inl rfl | exact Or.inr rfl) (pe_ix ix_seq (pv 2) (pe_ix ix_seq (pe_lst (pa_cons pe_int (pa_cons pe_int (pa_cons pe_int (pa_cons (pe_call (F_law_take.up (by decide)).ok hr rfl T.g_law_take.1 T.g_law_take.2 (F_law_take.up (by decide)).bn .nil (pass_own rfl rfl rfl rfl) (pa_cons (pv 0) (pa_cons (pe_callB call_lenU rfl T.n_len (by decide +kernel) (pa_cons (pv 2) pa_nil)) pa_nil))) pa_nil))))) (pe_call (F_law_take.up (by decide)).ok hr rfl T.g_law_take.1 T.g_law_take.2 (F_law_take.up (by decide)).bn .nil (pass_own rfl rfl rfl rfl) (pa_cons (pv 0) (pa_cons pe_int pa_nil))) fun _ _ => rfl) fun _ _ => rfl))
      (pss_cons (ps_set (i := 4) sc_law_course.nd rfl (by first | exact Or.inl rfl | exact Or.inr rfl) (pe_ix ix_seq (pe_lst (pa_cons pe_int (pa_cons pe_int (pa_cons pe_int (pa_cons pe_int pa_nil))))) (pe_call (F_law_take.up (by decide)).ok hr rfl T.g_law_take.1 T.g_law_take.2 (F_law_take.up (by decide)).bn .nil (pass_own rfl rfl rfl rfl) (pa_cons (pv 0) (pa_cons pe_int pa_nil))) fun _ _ => rfl))
      (pss_cons (ps_setLc (i := 6) (te := (tOp (rIx K) (tVar 2) (tCall (spC K (ct_law_take K)) [] (fun _ _ _ => False) (tCons (tVar 0) (tCons (tCB (rLenU K) (tCons (tVar 2) tNil)) tNil))))) (tt := tYes) (own := [("_law_k", 5)]) rfl sc_law_course.nd rfl rfl rfl (pi_range1 rfl T.n_range (pa_cons (pv 4) pa_nil)) (blk_ok ["_law_pool_here", "_law_parts", "_law_posts", "_law_start", "_law_many_here", "_law_k", "_law_ends_here"] (defScope s_law_course) rfl rfl (by decide +kernel)) (fun _ _ _ _ _ => (pg_name (i := 5) sc_law_course.nd rfl (by first | exact Or.inl rfl | exact Or.inr rfl))) (fun _ _ _ _ _ => pts_nil) (fun _ _ _ _ _ => (pe_ix ix_seq (pv 2) (pe_call (F_law_take.up (by decide)).ok hr rfl T.g_law_take.1 T.g_law_take.2 (F_law_take.up (by decide)).bn .nil passes_no (pa_cons (pv 0) (pa_cons (pe_callB call_lenU rfl T.n_len (by decide +kernel) (pa_cons (pv 2) pa_nil)) pa_nil))) fun _ _ => rfl)))
      (pss_cons (ps_if (pt_cmpR op_gt (pe_call (F_law_take.up (by decide)).ok hr rfl T.g_law_take.1 T.g_law_take.2 (F_law_take.up (by decide)).bn .nil (pass_own rfl rfl rfl rfl) (pa_cons (pv 0) (pa_cons pe_int pa_nil))) pe_int (nomark _))
      (pss_one (ps_expr (pe_bm PySem.F.plainAttrs_list PySem.F.slot_list_append PySem.F.type_list_append mt_append (pv 6) (pa_cons (pe_ix ix_seq (pv 2) (pe_un un_neg pe_int) fun _ _ => rfl) pa_nil))))
      pss_nil)
      (pss_one (ps_ret (pe_tup (pa_cons (pv 3) (pa_cons (pv 6) pa_nil)))))))))), fun ws ka out B F0 Q hC hR hX => ?_⟩)
  obtain ⟨s1, b1, rfl, a, p, n, ps, es, rfl, rfl, rfl, hp, hn0, hn, hne, hl, rfl⟩ := hC
  have hpp : 0 < ps.length := List.length_pos_iff.mpr hne
  have hL : (0 : Int) < (((stD ps).length : Nat) : Int) := by rw [stD_len]; omega
  have hL2 : (((stD ps).length : Nat) : Int) ≤ 100000000 := by rw [stD_len]; omega
  refine q_asg (ev_ixV (ev_var rfl) ev_int .vl at0) ?_
  have t1 := tk_lt p hL
  have o1 := tk_ok hp hL
  have t2 := tk_lt (tk p (((stD ps).length : Nat) : Int)).2 (m := 4) (by decide)
  have o2 := tk_ok o1 (m := 4) (by decide)
  obtain ⟨z, hz, hz2⟩ := pick4 (x := (tk p (((stD ps).length : Nat) : Int)).1) t2.1 t2.2
  have hsl := stD_len ps
  have hz0 : 0 ≤ z ∧ z.toNat < ps.length := by rcases hz2 with rfl | rfl <;> omega
  refine q_asg (ev_ixV (d := .str ps[z.toNat]) (ev_var rfl) (ev_ixV (evn_lst (ds := [.int 0, .int 0, .int 0, .int (tk p (((stD ps).length : Nat) : Int)).1]) (ea_cons ev_int (ea_cons ev_int (ea_cons ev_int (ea1 (ev_take (kr := []) (ev_var rfl) (ev_len (ev_var rfl) .vl) (hp.up (by omega)) hL hL2))))) (show 4 ≤ 100000 by decide)).lst (ev_take (kr := []) (ev_var rfl) ev_int (o1.up (by omega)) (by decide) (by decide)) .vl hz) .vl (atZ hz0.1 (stD_get (List.getElem?_eq_getElem hz0.2)))) ?_
  have hst : ps[z.toNat] ∈ ps := List.getElem_mem _
  generalize ps[z.toNat] = st at *
  generalize (tk (tk p (((stD ps).length : Nat) : Int)).2 4).2 = p2 at *
  have t3 := tk_lt p2 (m := 4) (by decide)
  have o3 := tk_ok o2 (m := 4) (by decide)
  obtain ⟨y, hy, hy2⟩ := pick4b t3.1 t3.2
  refine q_asg (w := .val (.int (y : Int))) (ev_ixV (evn_lst (ds := [.int 0, .int 1, .int 1, .int 2]) (ea_cons ev_int (ea_cons ev_int (ea_cons ev_int (ea1 ev_int)))) (show 4 ≤ 100000 by decide)).lst (ev_take (kr := []) (ev_var rfl) ev_int (o2.up (by omega)) (by decide) (by decide)) .vl hy) ?_
  generalize (tk p2 4).2 = p3 at *
  refine q_asgNR (evr_lc (ei_range1 (ea1 (ev_var rfl)) (by omega) (by omega)) (by decide) (by simp; omega) (fun i acc k => ∃ gs p', acc = stD gs ∧ gs.length = i ∧ (∀ g ∈ gs, g ∈ ps) ∧ k = [(a, .lst (Pl.ds p'))] ∧ p'.Ok (n + 3 + i)) ⟨[], p3, rfl, rfl, fun _ h => (by cases h), rfl, o3.up (by omega)⟩ (fun i acc k _ => ⟨trivial, fun _ => trivial⟩) (fun i w acc k hw ⟨gs, p', e1, e2, e3, e4, hp'⟩ => ?hs)) (fun nd k1 c ⟨acc, e0, gs, p', e1, e2, e3, e4, hp'⟩ => ?go)
  case hs =>
    subst e1 e4
    have hi : i < y := by
      have := (List.getElem?_eq_some_iff.mp hw).1
      simpa using this
    have t4 := tk_lt p' hL
    have o4 := tk_ok hp' hL
    have g4 : (tk p' (((stD ps).length : Nat) : Int)).1.toNat < ps.length := by rw [stD_len] at t4 ⊢; omega
    refine .inr ⟨_, _, .str ps[(tk p' (((stD ps).length : Nat) : Int)).1.toNat], et_yes, ev_ixV (ev_var rfl) (ev_take (kr := []) (ev_var rfl) (ev_len (ev_var rfl) .vl) (hp'.up (by omega)) hL hL2) .vl (atZ t4.1 (stD_get (List.getElem?_eq_getElem g4))), gs ++ [ps[(tk p' (((stD ps).length : Nat) : Int)).1.toNat]], _, stD_app gs [ps[(tk p' (((stD ps).length : Nat) : Int)).1.toNat]], by rw [List.length_append, e2]; rfl, fun g hg => ?_, rfl, o4.up (by omega)⟩
    rcases List.mem_append.mp hg with hg | hg
    · exact e3 g hg
    · rw [List.mem_singleton.mp hg]; exact List.getElem_mem _
  case go =>
  subst e0 e1 e4
  have hgl : gs.length ≤ 2 := by rw [e2]; simpa using hy2
  have hyy : (((List.range ((y : Int)).toNat).map fun i : Nat => W.val (.int (i : Int))).length : Int) ≤ 2 := by simp; omega
  have hp4 : p'.Ok (n + 5) := hp'.up (by omega)
  have o5 := tk_ok hp4 (m := 5) (by decide)
  obtain ⟨q, hq⟩ : ∃ q, ps.getLast? = some q := ⟨_, List.getLast?_eq_some_getLast hne⟩
  have hat : atI (stD ps) (-1) = some (.str q) := at_last (by unfold stD; rw [List.getLast?_map, hq]; rfl)
  refine q_whenI (fun ro ka => ∃ gs p', ro = [some (.val (.adr a)), some (.val (PtD ps es)), some (.val (.lst (stD ps))), some (.val (.str st)), some (.val (.int y)), none, some (.val (.adr c))] ∧ ka = [(a, .lst (Pl.ds p')), (c, .lst (stD gs))] ∧ p'.Ok (n + 6) ∧ (∀ g ∈ gs, g ∈ ps) ∧ gs.length ≤ 3)
    (et_test (ev_gt (ev_take (kr := [(c, .lst (stD gs))]) (ev_var rfl) ev_int (hp4.up (by omega)) (by decide) (by decide)) ev_int)) (fun hb nx k => ?_) (fun hb => ⟨gs, _, rfl, rfl, o5.up (by omega), e3, by omega⟩) (fun ro2 ka2 ⟨gs, p', e1, e2, hp', hg, hgl⟩ => ?_)
  · refine g_app (j0 := 1) (j := 1) (d := .str q) (ev_var rfl) rfl (ev_ixV (ev_var rfl) (ev_un ev_int ru_neg) .vl hat) rfl (by rw [stD_len]; omega) (k _ _ ⟨gs ++ [q], _, rfl, ?_, o5.up (by omega), fun g hg => ?_, by rw [List.length_append]; exact Nat.succ_le_succ hgl⟩)
    · rw [← stD_app]; rfl
    · rcases List.mem_append.mp hg with hg | hg
      · exact e3 g hg
      · rw [List.mem_singleton.mp hg]; exact List.mem_of_getLast? hq
  subst e1 e2
  refine Gp.frz (i := 6) (j := 1) rfl rfl (g_ret hR (ev_tup (ds := [.str st, .lst (stD gs)]) (ea2 (ev_var rfl) (ev_var rfl)) (show 2 ≤ 100000 by decide)) ⟨st, gs, p', rfl, rfl, hp'.up (by omega), hst, hg, hgl⟩)
end
def ct_law_lanes (K : PySem.W.Frag) : Ct := Ct1 fun s ka out => ∃ ps es, s = .val (PtD ps es) ∧ es.length ≤ 10000 ∧ ka = [] ∧ out = Rt (.lst (stD (lnN es))) []
section
variable {P : Program} {w : World} {K : PySem.W.Frag} {mg : Str → Option Value} {base : Heap}
theorem ok_law_lanes (T : Tx K mg) : Fn P w K mg base 4 (He.ga K "_law_lanes") ["_law_parts"] (ct_law_lanes K) := by
  obtain ⟨fd, F⟩ := T.d_law_lanes
  refine fn_ok F sc_law_lanes (fun _ _ _ _ _ _ us hl => match us, hl with | [_], _ => rfl) ct1_len (fun cdv A outer s H E hr => ⟨_, (pss_one (ps_ret (pe_lc (te := (tOp (rIx K) (tVar 1) (tC (.int 0)))) (tt := tYes) (own := [("_law_row", 1)]) rfl sc_law_lanes.nd (pi_seq (pe_ix ix_seq (pv 0) pe_int fun _ _ => rfl)) (blk_ok ["_law_parts", "_law_row"] (defScope s_law_lanes) rfl rfl (by decide +kernel)) (fun _ _ _ _ _ => (pg_name (i := 1) sc_law_lanes.nd rfl (by first | exact Or.inl rfl | exact Or.inr rfl))) (fun _ _ _ _ _ => pts_nil) (fun _ _ _ _ _ => (pe_ix ix_seq (pv 1) pe_int fun _ _ => rfl))))), fun ws ka out B F0 Q hC hR hX => ?_⟩)
  obtain ⟨s, rfl, ps, es, rfl, hl, rfl, rfl⟩ := hC
  exact g_retL hR (evn_filt_to (evn_map (xs := es) (g := fun r => W.val (rwL r)) (f := fun r => D.str r.1) (ei_map (ts := es) (f := rwL) (ev_ixV (ev_var rfl) ev_int .vl (atI_nat (j := 1) rfl))) (by decide) (by omega) ⟨trivial, fun _ => trivial⟩ (fun r hr => ev_ixV (ev_var rfl) ev_int .vt (atI_nat (j := 0) rfl))) (show es.map (fun r => D.str r.1) = stD (lnN es) by unfold lnN stD; rw [List.map_map]; rfl)) ⟨rfl, rfl⟩
end
theorem tail_sg {w : List Nat} (h : ∀ x ∈ w, x ∈ letL ++ digL) : ∀ x ∈ w.drop 1, x ∈ letL ++ digL := fun x hx => h x (List.mem_of_mem_drop hx)
theorem nm_sg {s : Str} (h : isNm s = true) : (∀ x ∈ s.cps.toList, x ∈ letL ++ digL) ∧ s.cps.toList.length ≤ 8 ∧ s.cps.toList ≠ [] := by
  unfold isNm at h
  cases hc : s.cps.toList with
  | nil => rw [hc] at h; cases h
  | cons c r =>
    rw [hc] at h
    unfold nmL at h
    rw [Bool.and_eq_true, Bool.and_eq_true, decide_eq_true_eq, decide_eq_true_eq, List.all_eq_true] at h
    refine ⟨fun x hx => ?_, h.1, fun z => by cases z⟩
    rcases List.mem_cons.mp hx with rfl | hx
    · exact List.mem_append_left _ h.2.1
    · have := h.2.2 x (List.mem_cons_of_mem _ hx)
      rw [Bool.or_eq_true, decide_eq_true_eq, decide_eq_true_eq] at this
      exact List.mem_append.mpr this
theorem tx_of_str (s : Str) : tx s.cps.toList = s := str_ext (by rw [tx_cps])
/-- the i-th word that is tried -/
def strW (q : Int) (w : List Nat) (i : Nat) : Str := tx ((letL[((q + (i : Int)) % 26).toNat]?.getD 0) :: w.drop 1)
theorem strW_at {q : Int} {w : List Nat} {i : Nat} : ∃ c, letL[((q + (i : Int)) % 26).toNat]? = some c ∧ c ∈ letL ∧ strW q w i = tx (c :: w.drop 1) := by
  have h0 : 0 ≤ (q + (i : Int)) % 26 := Int.emod_nonneg _ (by decide)
  have h1 : (q + (i : Int)) % 26 < 26 := Int.emod_lt_of_pos _ (by decide)
  have h2 : ((q + (i : Int)) % 26).toNat < letL.length := by rw [let_len]; omega
  refine ⟨_, List.getElem?_eq_getElem h2, List.getElem_mem h2, ?_⟩
  unfold strW
  rw [List.getElem?_eq_getElem h2]
  rfl
theorem strW_ne {q : Int} {w : List Nat} {i j : Nat} (hi : i < 26) (hj : j < 26) (h : i ≠ j) : strW q w i ≠ strW q w j := fun e => by
  obtain ⟨c, h1, _, h3⟩ := strW_at (q := q) (w := w) (i := i)
  obtain ⟨d, h4, _, h6⟩ := strW_at (q := q) (w := w) (i := j)
  rw [h3, h6] at e
  have e2 := congrArg (fun s : Str => s.cps.toList) e
  rw [tx_cps, tx_cps] at e2
  have e3 : c = d := (List.cons.inj e2).1
  subst e3
  have hz : ((q + (i : Int)) % 26).toNat ≠ ((q + (j : Int)) % 26).toNat := by omega
  exact nd_inj let_nd (by rw [let_len]; omega) hz (h1.trans h4.symm)
theorem strW_free {q : Int} {w : List Nat} {ns : List Str} (h : ns.length < 26) : ∃ i, i < 26 ∧ ¬ strW q w i ∈ ns := by
  refine Classical.byContradiction fun z => ?_
  have all : ∀ i, i < 26 → strW q w i ∈ ns := fun i hi => Classical.byContradiction fun y => z ⟨i, hi, y⟩
  have nd : ((List.range 26).map (strW q w)).Nodup := by
    refine List.pairwise_iff_getElem.mpr fun i j hi hj hij => ?_
    rw [List.length_map, List.length_range] at hi hj
    rw [List.getElem_map, List.getElem_map, List.getElem_range, List.getElem_range]
    exact strW_ne hi hj (by omega)
  have := sub_len nd (ys := ns) fun x hx => by
    obtain ⟨i, hi, rfl⟩ := List.mem_map.mp hx
    exact all i (List.mem_range.mp hi)
  rw [List.length_map, List.length_range] at this
  omega
/-- the word that is changed, and the pool behind it -/
def stgW (p : Pl) (ns : List Str) : List Nat × Pl := if ns = [] then ([113], p) else ((ns.getD (tk p ((stD ns).length : Nat)).1.toNat "").cps.toList, (tk p ((stD ns).length : Nat)).2)
def stgI (q : Int) (w : List Nat) (ns : List Str) : Nat := ((List.range 26).find? fun i => !decide (strW q w i ∈ ns)).getD 0
/-- the stranger, the pool behind it -/
def stgS (p : Pl) (ns : List Str) : Str := strW (tk (stgW p ns).2 26).1 (stgW p ns).1 (stgI (tk (stgW p ns).2 26).1 (stgW p ns).1 ns)
def stgP (p : Pl) (ns : List Str) : Pl := (tk (stgW p ns).2 26).2
theorem stgW_ok {p : Pl} {n : Int} {ns : List Str} (hp : p.Ok n) (hnm : ∀ s ∈ ns, isNm s = true) : (stgW p ns).2.Ok (n + 1) ∧ (∀ x ∈ (stgW p ns).1, x ∈ letL ++ digL) ∧ (stgW p ns).1.length ≤ 8 := by
  unfold stgW
  by_cases hb : ns = []
  · rw [if_pos hb]
    show p.Ok (n + 1) ∧ (∀ x ∈ ([113] : List Nat), x ∈ letL ++ digL) ∧ ([113] : List Nat).length ≤ 8
    exact ⟨hp.up (by omega), by decide, by decide⟩
  · rw [if_neg hb]
    have hL : (0 : Int) < ((stD ns).length : Nat) := by rw [stD_len]; have := List.length_pos_iff.mpr hb; omega
    have t1 := tk_lt p hL
    have hu : (tk p ((stD ns).length : Nat)).1.toNat < ns.length := by have h2 := t1.2; have h1 := t1.1; rw [stD_len] at h1 h2 ⊢; have := List.length_pos_iff.mpr hb; omega
    have e : ns.getD (tk p ((stD ns).length : Nat)).1.toNat "" = ns[(tk p ((stD ns).length : Nat)).1.toNat] := by rw [List.getD_eq_getElem?_getD, List.getElem?_eq_getElem hu]; rfl
    dsimp only
    rw [e]
    have hs := nm_sg (hnm _ (List.getElem_mem hu))
    exact ⟨tk_ok hp hL, hs.1, hs.2.1⟩
theorem strW_nm {q : Int} {w : List Nat} {i : Nat} (hw : ∀ x ∈ w, x ∈ letL ++ digL) (hl : w.length ≤ 8) : isNm (strW q w i) = true := by
  obtain ⟨c, hc, hcm, he⟩ := strW_at (q := q) (w := w) (i := i)
  rw [he]
  refine nm_of ⟨c, rfl, hcm⟩ (fun x hx => ?_) (by rw [List.length_cons, List.length_drop]; omega)
  rcases List.mem_cons.mp hx with rfl | hx
  · exact List.mem_append_left _ hcm
  · exact tail_sg hw x hx
theorem stgI_eq {q : Int} {w : List Nat} {ns : List Str} {i : Nat} (hi : i < 26) (h : ∀ j, j < i → strW q w j ∈ ns) (hn : ¬ strW q w i ∈ ns) : stgI q w ns = i := by
  unfold stgI
  rw [find_first (i := i) (d := i) (fun e he => ?_) (by rw [List.getElem?_range hi]) (by rw [decide_eq_false hn]; rfl)]
  · rfl
  · obtain ⟨j, hj, rfl⟩ := List.mem_iff_getElem.mp he
    rw [List.length_take, List.length_range] at hj
    rw [List.getElem_take, List.getElem_range]
    rw [decide_eq_true (h j (by omega))]
    rfl
theorem stg_ok {p : Pl} {n : Int} {ns : List Str} (hp : p.Ok n) (hl : ns.length < 26) (hnm : ∀ s ∈ ns, isNm s = true) : isNm (stgS p ns) = true ∧ ¬ stgS p ns ∈ ns ∧ (stgP p ns).Ok (n + 2) := by
  obtain ⟨h1, h2, h3⟩ := stgW_ok hp hnm
  refine ⟨strW_nm h2 h3, ?_, (tk_ok h1 (by decide)).up (by omega)⟩
  obtain ⟨i, hi, hn⟩ := strW_free (q := (tk (stgW p ns).2 26).1) (w := (stgW p ns).1) hl
  unfold stgS stgI
  cases hf : (List.range 26).find? fun i => !decide (strW (tk (stgW p ns).2 26).1 (stgW p ns).1 i ∈ ns) with
  | none =>
    have := List.find?_eq_none.mp hf i (List.mem_range.mpr hi)
    rw [decide_eq_false hn] at this
    exact absurd rfl this
  | some j =>
    have := List.find?_some hf
    rw [Bool.not_eq_true', decide_eq_false_iff_not] at this
    exact this
def ct_law_stranger (K : PySem.W.Frag) : Ct := Ct2 fun s b ka out => ∃ a p n ns, s = .val (.adr a) ∧ b = .val (.lst (stD ns)) ∧ ka = [(a, .lst (Pl.ds p))] ∧ p.Ok n ∧ 0 ≤ n ∧ n ≤ 900000 ∧ ns.length < 26 ∧ (∀ s ∈ ns, isNm s = true) ∧
  out = Rt (.str (stgS p ns)) [(a, .lst (stgP p ns).ds)]
theorem ev_stranger {K : PySem.W.Frag} {ro : Ro} {ka kr : Cells} {te tf : TE} {a : Addr} {p : Pl} {n : Int} {ns : List Str} {E : XK} {k1 : Cells} (h : EvD K te ro ka (.val (.adr a)) k1) (h2 : EvD K tf ro k1 (.val (.lst (stD ns))) ((a, .lst p.ds) :: kr)) (hp : p.Ok n) (h0 : 0 ≤ n) (h1 : n ≤ 900000) (hl : ns.length < 26) (hnm : ∀ s ∈ ns, isNm s = true) :
    EvD K (tCall (spC K (ct_law_stranger K)) [] E (tCons te (tCons tf tNil))) ro ka (.val (.str (stgS p ns))) ((a, .lst (stgP p ns).ds) :: kr) := ev_call1 (ea2 h h2) ⟨_, _, rfl, a, p, n, ns, rfl, rfl, rfl, hp, h0, h1, hl, hnm, rfl⟩
section
variable {P : Program} {w : World} {K : PySem.W.Frag} {mg : Str → Option Value} {base : Heap}
theorem ok_law_stranger (T : Tx K mg) (F_law_take : Fn P w K mg base 4 (He.ga K "_law_take") ["_law_pool_here", "_law_many_here"] (ct_law_take K)) : Fn P w K mg base 6 (He.ga K "_law_stranger") ["_law_pool_here", "_law_names"] (ct_law_stranger K) := by
  obtain ⟨fd, F⟩ := T.d_law_stranger
  refine fn_ok F sc_law_stranger (fun _ _ _ _ _ _ us hl => match us, hl with | [_, _], _ => rfl) ct2_len (fun cdv A outer s H E hr => ⟨_, (pss_cons (ps_set (i := 2) sc_law_stranger.nd rfl (by first | exact Or.inl rfl | exact Or.inr rfl) pe_str)
      (pss_cons (ps_if (pt_cmpR (op_neP (by have := (hr).units; exact this)) (pv 1) (pe_lst pa_nil) (nomark _))
      (pss_one (ps_set (i := 2) sc_law_stranger.nd rfl (by first | exact Or.inl rfl | exact Or.inr rfl) (pe_ix ix_seq (pv 1) (pe_call (F_law_take.up (by decide)).ok hr rfl T.g_law_take.1 T.g_law_take.2 (F_law_take.up (by decide)).bn .nil (pass_own rfl rfl rfl rfl) (pa_cons (pv 0) (pa_cons (pe_callB call_lenU rfl T.n_len (by decide +kernel) (pa_cons (pv 1) pa_nil)) pa_nil))) fun _ _ => rfl)))
      pss_nil)
      (pss_cons (ps_set (i := 3) sc_law_stranger.nd rfl (by first | exact Or.inl rfl | exact Or.inr rfl) pe_str)
      (pss_cons (ps_set (i := 4) sc_law_stranger.nd rfl (by first | exact Or.inl rfl | exact Or.inr rfl) (pe_call (F_law_take.up (by decide)).ok hr rfl T.g_law_take.1 T.g_law_take.2 (F_law_take.up (by decide)).bn .nil (pass_own rfl rfl rfl rfl) (pa_cons (pv 0) (pa_cons pe_int pa_nil))))
      (pss_cons (ps_for (passes_of rfl) rfl (pi_range1 rfl T.n_range (pa_cons pe_int pa_nil)) (pg_name (i := 5) sc_law_stranger.nd rfl (by first | exact Or.inl rfl | exact Or.inr rfl)) (pss_cons (ps_set (i := 6) sc_law_stranger.nd rfl (by first | exact Or.inl rfl | exact Or.inr rfl) (pe_op op_addU (pe_ix ix_seq (pv 3) (pe_op op_mod (pe_op op_addU (pv 4) (pv 5)) pe_int) fun _ _ => rfl) (pe_slice sl_U (pv 2) (po_some pe_int) po_none)))
      (pss_one (ps_if (pt_cmpR op_niU (pv 6) (pv 1) (by with_unfolding_all rfl))
      (pss_one (ps_ret (pv 6)))
      pss_nil))))
      (pss_one (ps_ret pe_str))))))), fun ws ka out B F0 Q hC hR hX => ?_⟩)
  obtain ⟨s1, b1, rfl, a, p, n, ns, rfl, rfl, rfl, hp, hn0, hn, hl, hnm, rfl⟩ := hC
  obtain ⟨hp2, hw1, hw2⟩ := stgW_ok hp hnm
  refine q_asg (ev_str.to (w' := .val (.str (tx [113]))) rfl) ?_
  refine q_whenI (fun ro ka => ro = [some (.val (.adr a)), some (.val (.lst (stD ns))), some (.val (.str (tx (stgW p ns).1))), none, none, none, none] ∧ ka = [(a, .lst (Pl.ds (stgW p ns).2))])
    ((et_test (ev_ne (d := .lst (stD ns)) (e := .lst []) (ev_var rfl) (evn_lst (ds := []) ea_nil (by decide)).lst .v .v (pl_stD _ 60) rfl)).to (b := !decide (ns = [])) ?bb) (fun hb nx k => ?t1) (fun hb => ?t2) (fun ro2 ka2 ⟨e1, e2⟩ => ?go)
  case bb =>
    cases ns with
    | nil => rfl
    | cons _ _ => rfl
  case t1 =>
    rw [Bool.not_eq_true', decide_eq_false_iff_not] at hb
    have hL : (0 : Int) < ((stD ns).length : Nat) := by rw [stD_len]; have := List.length_pos_iff.mpr hb; omega
    have hL2 : (((stD ns).length : Nat) : Int) ≤ 100000000 := by rw [stD_len]; omega
    have t1 := tk_lt p hL
    have hu : (tk p ((stD ns).length : Nat)).1.toNat < ns.length := by have h2 := t1.2; have h1 := t1.1; rw [stD_len] at h1 h2 ⊢; have := List.length_pos_iff.mpr hb; omega
    have e : stgW p ns = (ns[(tk p ((stD ns).length : Nat)).1.toNat].cps.toList, (tk p ((stD ns).length : Nat)).2) := by
      unfold stgW
      rw [if_neg hb, List.getD_eq_getElem?_getD, List.getElem?_eq_getElem hu]
      rfl
    exact g_asg ((ev_ixV (ev_var rfl) (ev_take (kr := []) (ev_var rfl) (ev_len (ev_var rfl) .vl) (hp.up (by omega)) hL hL2) .vl (atZ t1.1 (stD_get (List.getElem?_eq_getElem hu)))).to (w' := .val (.str (tx (ns[(tk p ((stD ns).length : Nat)).1.toNat]).cps.toList))) (by rw [tx_of_str])) (k _ _ (by rw [e]; exact ⟨rfl, rfl⟩))
  case t2 =>
    rw [Bool.not_eq_false', decide_eq_true_eq] at hb
    have e : stgW p ns = ([113], p) := if_pos hb
    rw [e]
    exact ⟨rfl, rfl⟩
  case go =>
  subst e1 e2
  have hS : stgS p ns = strW (tk (stgW p ns).2 26).1 (stgW p ns).1 (stgI (tk (stgW p ns).2 26).1 (stgW p ns).1 ns) := rfl
  have hP : stgP p ns = (tk (stgW p ns).2 26).2 := rfl
  rw [hS, hP] at hR
  generalize (stgW p ns).1 = w at *
  generalize (stgW p ns).2 = p2 at *
  refine q_asg (ev_str.to (congrArg (fun z => W.val (.str z)) letters_tx)) ?_
  refine q_asg (ev_take (kr := []) (ev_var rfl) ev_int (hp2.up (by omega)) (by decide) (by decide)) ?_
  generalize tk p2 26 = q2 at *
  refine q_forn (ei_range1 (ea1 ev_int) (by decide) (by decide)) (fun i ro ka => ∃ (v v2 : Option W), ro = [some (.val (.adr a)), some (.val (.lst (stD ns))), some (.val (.str (tx w))), some (.val (.str (tx letL))), some (.val (.int q2.1)), v, v2] ∧ ka = [(a, .lst (Pl.ds q2.2))] ∧ ∀ j, j < i → strW q2.1 w j ∈ ns) ⟨_, _, rfl, rfl, fun j z => absurd z (Nat.not_lt_zero _)⟩ (fun i ro ka _ => trivial) (fun i w2 ro2 ka2 ta' hw ⟨v, v2, e1, e2, hs⟩ => ?_) (fun ro2 ka2 ta' ⟨v, v2, e1, e2, hs⟩ _ => ?_)
  · subst e1 e2
    rw [List.getElem?_map] at hw
    obtain ⟨i', hi', rfl⟩ := Option.map_eq_some_iff.mp hw
    obtain ⟨hi1, hi2⟩ := List.getElem?_eq_some_iff.mp hi'
    rw [List.getElem_range] at hi2
    subst hi2
    have hi26 : i < 26 := by rw [List.length_range] at hi1; exact hi1
    obtain ⟨c, hc, hcm, he⟩ := strW_at (q := q2.1) (w := w) (i := i)
    have h0 : 0 ≤ (q2.1 + (i : Int)) % 26 := Int.emod_nonneg _ (by decide)
    refine q_asg (w := .val (.str (strW q2.1 w i))) ((ev_addT (ev_ixT (ev_var rfl) (ev_modI (ev_addI (ev_var rfl) (ev_var rfl)) ev_int (by decide)) (by decide) (atZ h0 hc)) ((ev_slX (ev_var rfl) (eo_some ev_int) eo_none (by omega)).to (w' := .val (.str (tx (w.drop 1)))) ?_) (by simp; omega)).to (congrArg (fun z => W.val (.str z)) he.symm)) ?_
    · by_cases hw0 : w = []
      · subst hw0; rfl
      · have : 0 < w.length := List.length_pos_iff.mpr hw0
        rw [cut_from (by decide) (by omega)]
        rfl
    refine g_if (et_test (ev_niL (ev_var rfl) (ev_var rfl) .vl)) (fun hb => g_ret hR (ev_var rfl) ?_) (fun hb => g_next (g_jp ⟨_, _, rfl, rfl, fun j hj => ?_⟩))
    · rw [Bool.not_eq_true', decide_eq_false_iff_not] at hb
      rw [stgI_eq hi26 hs hb]
      exact ⟨rfl, rfl⟩
    · rw [Bool.not_eq_false', decide_eq_true_eq] at hb
      by_cases q : j = i
      · subst q; exact hb
      · exact hs j (by omega)
  · subst e1 e2
    rw [List.length_map, List.length_range] at hs
    obtain ⟨i, hi, hn⟩ := strW_free (q := q2.1) (w := w) hl
    exact absurd (hs i hi) hn
end
theorem wy_in {ps : List Str} {es : List Ln} {s : Str} {wy : List (Str × List Str)} (h : WyOk ps es s wy) (q : Str) : (getT (wyD wy) (.inr q)).isSome = decide (q ∈ keysT wy) := tb_in _ _
def ct_law_used (K : PySem.W.Frag) : Ct := Ct3 fun a b c ka out => ∃ ps es st gs, a = .val (PtD ps es) ∧ b = .val (.str st) ∧ c = .val (.lst (stD gs)) ∧ st ∈ ps ∧ gs.length ≤ 10000 ∧ (∀ r ∈ es, r.2.1 ∈ ps ∧ r.2.2 ∈ ps) ∧ ps.length ≤ 1000 ∧ es.length ≤ 10000 ∧ ka = [] ∧ out = Rt (.lst (stD (usedL es st gs))) []
section
variable {P : Program} {w : World} {K : PySem.W.Frag} {mg : Str → Option Value} {base : Heap}
theorem ok_law_used (T : Tx K mg) (F_law_ways : Fn P w K mg base 4 (He.ga K "_law_ways") ["_law_parts", "_law_start"] (ct_law_ways K)) : Fn P w K mg base 6 (He.ga K "_law_used") ["_law_parts", "_law_start", "_law_ends_here"] (ct_law_used K) := by
  obtain ⟨fd, F⟩ := T.d_law_used
  refine fn_ok F sc_law_used (fun _ _ _ _ _ _ us hl => match us, hl with | [_, _, _], _ => rfl) ct3_len (fun cdv A outer s H E hr => ⟨_, (pss_cons (ps_set (i := 3) sc_law_used.nd rfl (by first | exact Or.inl rfl | exact Or.inr rfl) (pe_call (F_law_ways.up (by decide)).ok hr rfl T.g_law_ways.1 T.g_law_ways.2 (F_law_ways.up (by decide)).bn .nil (pass_own rfl rfl rfl rfl) (pa_cons (pv 0) (pa_cons (pv 1) pa_nil))))
      (pss_cons (ps_set (i := 4) sc_law_used.nd rfl (by first | exact Or.inl rfl | exact Or.inr rfl) (pe_lst pa_nil))
      (pss_cons (ps_for (passes_of rfl) rfl (pi_seq (pe_ix ix_seq (pv 0) pe_int fun _ _ => rfl)) (pg_tup rfl (pgs_cons (pg_name (i := 5) sc_law_used.nd rfl (by first | exact Or.inl rfl | exact Or.inr rfl)) (pgs_cons (pg_name (i := 6) sc_law_used.nd rfl (by first | exact Or.inl rfl | exact Or.inr rfl)) (pgs_cons (pg_name (i := 7) sc_law_used.nd rfl (by first | exact Or.inl rfl | exact Or.inr rfl)) pgs_nil)))) (pss_cons (ps_set (i := 8) sc_law_used.nd rfl (by first | exact Or.inl rfl | exact Or.inr rfl) (pe_call (F_law_ways.up (by decide)).ok hr rfl T.g_law_ways.1 T.g_law_ways.2 (F_law_ways.up (by decide)).bn .nil (pass_own rfl rfl rfl rfl) (pa_cons (pv 0) (pa_cons (pv 7) pa_nil))))
      (pss_one (ps_if (PW.pt (pw_and (pt_cmp (pc_din (hu1 hr) (pv 6) (pv 3)) (by with_unfolding_all rfl)) (pw_and1 (pt_cmpR (op_neP (by have := (hr).units; exact this)) (pe_lc (te := (tVar 9)) (tt := (tB (tDIn (tVar 9) (tVar 8)))) (own := [("_law_post", 9)]) rfl sc_law_used.nd (pi_seq (pv 2)) (blk_ok ["_law_parts", "_law_start", "_law_ends_here", "_law_ahead", "_law_found", "_law_lane", "_law_first", "_law_second", "_law_behind", "_law_post"] (defScope s_law_used) rfl rfl (by decide +kernel)) (fun _ _ _ _ _ => (pg_name (i := 9) sc_law_used.nd rfl (by first | exact Or.inl rfl | exact Or.inr rfl))) (fun _ _ _ _ _ => (pts_one (pt_cmp (pc_din (hu1 hr) (pv 9) (pv 8)) (by with_unfolding_all rfl)))) (fun _ _ _ _ _ => (pv 9))) (pe_lst pa_nil) (nomark _)))))
      (pss_one (ps_expr (pe_bm PySem.F.plainAttrs_list PySem.F.slot_list_append PySem.F.type_list_append mt_append (pv 4) (pa_cons (pv 5) pa_nil))))
      pss_nil))))
      (pss_one (ps_ret (pv 4)))))), fun ws ka out B F0 Q hC hR hX => ?_⟩)
  obtain ⟨a, b, c, rfl, ps, es, st, gs, rfl, rfl, rfl, hst, hgl, hps, hl, hel, rfl, rfl⟩ := hC
  have hp2 : ∀ r ∈ es, r.2.2 ∈ ps := fun r hr => (hps r hr).2
  refine q_call (kr := []) (k1 := []) (ea2 (ev_var rfl) (ev_var rfl)) ⟨_, _, rfl, ps, es, st, rfl, rfl, hst, hp2, hl, by omega, rfl, rfl⟩ (fun o k ⟨wy, h, _⟩ => ⟨_, h⟩) ?_
  rintro _ _ ⟨wy, e, rfl, hwy⟩
  cases e
  refine q_asgN (evn_lst (ds := []) ea_nil (by decide)) (fun f => ?_)
  refine q_forT (ei_map (ts := es) (f := rwL) (ev_ixV (ev_var rfl) ev_int .vl (atI_nat (j := 1) rfl))) (fun i ro ka => ∃ v5 v6 v7 v8 v9, ro = [some (.val (PtD ps es)), some (.val (.str st)), some (.val (.lst (stD gs))), some (.val (.dic (wyD wy))), some (.val (.adr f)), v5, v6, v7, v8, v9] ∧ ka = [(f, .lst (stD (lnN ((es.take i).filter (usdB es st gs)))))]) ⟨none, none, none, none, none, rfl, rfl⟩ (fun i ro ka _ => trivial) (fun i w ro2 ka2 ta' hw ⟨v5, v6, v7, v8, v9, e1, e2⟩ => ?_) (fun ro2 ka2 ta' ⟨v5, v6, v7, v8, v9, e1, e2⟩ _ => ?_)
  · subst e1 e2
    rw [List.getElem?_map] at hw
    obtain ⟨r, hr, rfl⟩ := Option.map_eq_some_iff.mp hw
    have hm := List.mem_of_getElem? hr
    refine ⟨_, at_t3, q_call (kr := [(f, .lst (stD (lnN ((es.take i).filter (usdB es st gs)))))]) (k1 := []) (ea2 (ev_var rfl) (ev_var rfl)) ⟨_, _, rfl, ps, es, r.2.2, rfl, rfl, (hps r hm).2, hp2, hl, by omega, rfl, rfl⟩ (fun o k ⟨wy, h, _⟩ => ⟨_, h⟩) ?_⟩
    rintro _ _ ⟨wy2, e, rfl, hwy2⟩
    cases e
    have hlen : (lnN ((es.take i).filter (usdB es st gs))).length ≤ es.length := by
      rw [lnN_len]
      exact Nat.le_trans (List.length_filter_le _ _) (by rw [List.length_take]; omega)
    have hsnoc : lnN ((es.take (i + 1)).filter (usdB es st gs)) = lnN ((es.take i).filter (usdB es st gs)) ++ if usdB es st gs r = true then [r.1] else [] := by
      rw [take_succ_some hr, List.filter_append, List.filter_cons]
      unfold lnN
      rw [List.map_append]
      split <;> rfl
    refine g_if (b := usdB es st gs r) ((et_and (a := decide (r.2.1 ∈ keysT wy)) (b := !decide ((gs.filter fun g => decide (g ∈ keysT wy2)) = [])) (et_B ((ev_din (ev_var rfl) (ev_var rfl) .v).to (by rw [wy_in hwy]))) (fun _ => (et_test (ev_ne (d := .lst (stD (gs.filter fun g => decide (g ∈ keysT wy2)))) (e := .lst []) (evn_filt (xs := gs) (g := fun s => W.val (.str s)) (f := fun s => D.str s) (p := fun g => decide (g ∈ keysT wy2)) (ei_strs (ev_var rfl)) (by decide) (by omega) ⟨trivial, fun _ => trivial⟩ (fun s hs => et_B ((ev_din (ev_var rfl) (ev_var rfl) .v).to (by rw [wy_in hwy2]))) (fun s hs _ => ev_var rfl)).lst (evn_lst (ds := []) ea_nil (by decide)).lst .v .v (pl_stD _ 60) rfl)).to (congrArg (fun z => !z) (eqL_stD _ [])))).to ?hb) (fun hb => ?h1) (fun hb => ?h2)
    case hb =>
      rw [Bool.eq_iff_iff, usd_iff, Bool.and_eq_true, decide_eq_true_eq, Bool.not_eq_true', decide_eq_false_iff_not, hwy.all]
      refine and_congr Iff.rfl ⟨fun h => ?_, fun ⟨g, h1, h2⟩ z => ?_⟩
      · obtain ⟨g, hg⟩ := List.exists_mem_of_ne_nil _ h
        obtain ⟨h1, h2⟩ := List.mem_filter.mp hg
        exact ⟨g, h1, (hwy2.all g).mp (of_decide_eq_true h2)⟩
      · have : g ∈ gs.filter fun g => decide (g ∈ keysT wy2) := List.mem_filter.mpr ⟨h1, decide_eq_true ((hwy2.all g).mpr h2)⟩
        rw [z] at this
        cases this
    case h1 =>
      rw [if_pos hb] at hsnoc
      refine g_app (j0 := 0) (j := 0) (d := .str r.1) (ev_var rfl) rfl (ev_var rfl) rfl (by rw [stD_len]; omega) (g_jp ⟨_, _, _, _, _, rfl, ?_⟩)
      rw [hsnoc, ← stD_app]
      rfl
    case h2 =>
      rw [if_neg (by rw [hb]; decide), List.append_nil] at hsnoc
      exact g_next (g_jp ⟨_, _, _, _, _, rfl, by rw [hsnoc]; rfl⟩)
  · subst e1 e2
    rw [List.length_map, List.take_length]
    exact Gp.frz (i := 4) (j := 0) rfl rfl (g_ret hR (ev_var rfl) ⟨rfl, rfl⟩)
end
/-- (x, y) where y raises -/
theorem evx_tup2 {K : PySem.W.Frag} {ro : Ro} {ka k1 k2 : Cells} {te tf : TE} {tr : TA} {w : W} {E : XK} {C1 : Addr} {gs : List (Str × D)} (h1 : EvD K te ro ka w k1) (h2 : EvX K tf ro k1 E C1 gs k2) : EvX K (tTup (tCons te (tCons tf tr))) ro ka E C1 gs k2 := fun B F0 ta sg H Q e q =>
  h1 B F0 ta sg H _ e fun v H1 e1 => h2 B F0 _ sg H1 _ e1 fun dx H2 e2 => q dx H2 e2.pop
def ct_law_told (K : PySem.W.Frag) : Ct := Ct3 fun a b c ka out => ∃ ps es st gs l o, a = .val (CrsD K ps es st gs) ∧ b = .val (.str l) ∧ c = .val (.str o) ∧ CkOk ps es st gs ∧ ka = [] ∧ out = Rt (gk ps es st gs l o).d []
section
variable {P : Program} {w : World} {K : PySem.W.Frag} {mg : Str → Option Value} {base : Heap}
theorem ok_law_told (T : Tx K mg) (F_gate : Fn P w K mg base 14 (He.ga K "gate") ["course", "lane", "other"] (ct_gate K)) : Fn P w K mg base 16 (He.ga K "_law_told") ["_law_course_here", "_law_lane", "_law_other"] (ct_law_told K) := by
  obtain ⟨fd, F⟩ := T.d_law_told
  refine fn_ok F sc_law_told (fun _ _ _ _ _ _ us hl => match us, hl with | [_, _, _], _ => rfl) ct3_len (fun cdv A outer s H E hr => ⟨_, (pss_one (ps_tryC (tb := fun W => (tRet (tTup (tCons (tC (.str "told")) (tCons (tCall (spC K (ct_gate K)) [] (XW 4 W) (tCons (tVar 0) (tCons (tVar 1) (tCons (tVar 2) tNil)))) tNil))))) (l := [(.ref (He.ga K "NoLane"), (some 3), fun a cls d => (tRet (tTup (tCons (tC (.str "NoLane")) (tCons (tXf a cls d (He.ga K "NoLane") "name" (tVar 3)) tNil))))), (.ref (He.ga K "SameLane"), (some 3), fun a cls d => (tRet (tTup (tCons (tC (.str "SameLane")) (tCons (tXf a cls d (He.ga K "SameLane") "name" (tVar 3)) tNil))))), (.ref (He.ga K "NoRun"), (some 3), fun a cls d => (tRet (tTup (tCons (tC (.str "NoRun")) (tCons (tXf a cls d (He.ga K "NoRun") "name" (tVar 3)) tNil)))))]) rfl rfl (takes_of rfl rfl rfl rfl)
      (fun W pn xe tk hp => (pss_one (ps_ret (pe_tup (pa_cons pe_str (pa_cons (pe_call (F_gate.up (by decide)).ok hr rfl T.g_gate.1 T.g_gate.2 (F_gate.up (by decide)).bn .nil (pass_xw tk) (pa_cons (pv 0) (pa_cons (pv 1) (pa_cons (pv 2) pa_nil)))) pa_nil))))))
      (fun D base => (Deals.named (i := 3) rfl sc_law_told.nd ⟨rfl, by decide, .inl T.g_NoLane.1⟩ rfl rfl
      (fun a oe cls d pn hz hf => (pss_one (ps_ret (pe_tup (pa_cons pe_str (pa_cons (pe_xf T.xc_NoLane.xf T.xn_NoLane_name hz hf (pv 3)) pa_nil)))))) (Deals.named (i := 3) rfl sc_law_told.nd ⟨rfl, by decide, .inl T.g_SameLane.1⟩ rfl rfl
      (fun a oe cls d pn hz hf => (pss_one (ps_ret (pe_tup (pa_cons pe_str (pa_cons (pe_xf T.xc_SameLane.xf T.xn_SameLane_name hz hf (pv 3)) pa_nil)))))) (Deals.named (i := 3) rfl sc_law_told.nd ⟨rfl, by decide, .inl T.g_NoRun.1⟩ rfl rfl
      (fun a oe cls d pn hz hf => (pss_one (ps_ret (pe_tup (pa_cons pe_str (pa_cons (pe_xf T.xc_NoRun.xf T.xn_NoRun_name hz hf (pv 3)) pa_nil)))))) base)))))), fun ws ka out B F0 Q hC hR hX => ?_⟩)
  obtain ⟨a, b, c, rfl, ps, es, st, gs, l, o, rfl, rfl, rfl, ck, rfl, rfl⟩ := hC
  have arg : EvA K (tCons (tVar 0) (tCons (tVar 1) (tCons (tVar 2) tNil))) [some (.val (CrsD K ps es st gs)), some (.val (.str l)), some (.val (.str o)), none] [] [.val (CrsD K ps es st gs), .val (.str l), .val (.str o)] [] := ea3 (ev_var rfl) (ev_var rfl) (ev_var rfl)
  have con : ct_gate K [.val (CrsD K ps es st gs), .val (.str l), .val (.str o)] [] ((gk ps es st gs l o).o K) := ⟨_, _, _, rfl, ps, es, st, gs, l, o, rfl, rfl, rfl, ck, rfl, rfl⟩
  generalize gk ps es st gs l o = g at *
  cases g with
  | no x => exact g_retY (C1 := He.ga K "NoLane") (gs := [("name", .str x)]) (k2 := []) (evx_tup2 ev_str (evx_call (k2 := []) (kr := []) (k3 := []) arg con rfl)) (.here T.ex_NoLane_NoLane) fun a dx => g_ret hR ((ev_tup (ds := [.str "NoLane", .str x]) (ea2 ev_str (ev_xf (j := 0) (ev_var rfl) rfl lk1)) (show 2 ≤ 100000 by decide)).less (List.nil_sublist _)) ⟨rfl, rfl⟩
  | same x => exact g_retY (C1 := He.ga K "SameLane") (gs := [("name", .str x)]) (k2 := []) (evx_tup2 ev_str (evx_call (k2 := []) (kr := []) (k3 := []) arg con rfl)) (.next T.ex_SameLane_NoLane (.here T.ex_SameLane_SameLane)) fun a dx => g_ret hR ((ev_tup (ds := [.str "SameLane", .str x]) (ea2 ev_str (ev_xf (j := 0) (ev_var rfl) rfl lk1)) (show 2 ≤ 100000 by decide)).less (List.nil_sublist _)) ⟨rfl, rfl⟩
  | run x => exact g_retY (C1 := He.ga K "NoRun") (gs := [("name", .str x)]) (k2 := []) (evx_tup2 ev_str (evx_call (k2 := []) (kr := []) (k3 := []) arg con rfl)) (.next T.ex_NoRun_NoLane (.next T.ex_NoRun_SameLane (.here T.ex_NoRun_NoRun))) fun a dx => g_ret hR ((ev_tup (ds := [.str "NoRun", .str x]) (ea2 ev_str (ev_xf (j := 0) (ev_var rfl) rfl lk1)) (show 2 ≤ 100000 by decide)).less (List.nil_sublist _)) ⟨rfl, rfl⟩
  | ok d => exact g_ret hR (ev_tup (ds := [.str "told", d]) (ea2 ev_str (ev_callP arg con)) (show 2 ≤ 100000 by decide)) ⟨rfl, rfl⟩
end
def ct_law_free (K : PySem.W.Frag) : Ct := Ct5 fun a b c d e ka out => ∃ ps es st gs l o, a = .val (PtD ps es) ∧ b = .val (.str st) ∧ c = .val (.lst (stD gs)) ∧ d = .val (.str l) ∧ e = .val (.str o) ∧ st ∈ ps ∧ (∀ r ∈ es, r.2.1 ∈ ps ∧ r.2.2 ∈ ps) ∧ (lnN es).Nodup ∧ ps.length ≤ 1000 ∧ es.length ≤ 10000 ∧ gs.length ≤ 10000 ∧ l ∈ lnN es ∧ l ≠ o ∧ ka = [] ∧ out = Rt (.bl (decide (l ∈ usedL (cutE es [o]) st gs))) []
section
variable {P : Program} {w : World} {K : PySem.W.Frag} {mg : Str → Option Value} {base : Heap}
theorem ok_law_free (T : Tx K mg) (F_law_ends : Fn P w K mg base 4 (He.ga K "_law_ends") ["_law_parts"] (ct_law_ends K)) (F_law_ways : Fn P w K mg base 4 (He.ga K "_law_ways") ["_law_parts", "_law_start"] (ct_law_ways K)) : Fn P w K mg base 6 (He.ga K "_law_free") ["_law_parts", "_law_start", "_law_ends_here", "_law_lane", "_law_other"] (ct_law_free K) := by
  obtain ⟨fd, F⟩ := T.d_law_free
  refine fn_ok F sc_law_free (fun _ _ _ _ _ _ us hl => match us, hl with | [_, _, _, _, _], _ => rfl) ct5_len (fun cdv A outer s H E hr => ⟨_, (pss_cons (ps_set (i := 6) sc_law_free.nd rfl (by first | exact Or.inl rfl | exact Or.inr rfl) (pe_lst (pa_cons (pe_ix ix_seq (pv 0) pe_int fun _ _ => rfl) (pa_cons (pe_lc (te := (tVar 5)) (tt := (tTest (tOp (rEqP K true) (tOp (rIx K) (tVar 5) (tC (.int 0))) (tVar 4)))) (own := [("_law_row", 5)]) rfl sc_law_free.nd (pi_seq (pe_ix ix_seq (pv 0) pe_int fun _ _ => rfl)) (blk_ok ["_law_parts", "_law_start", "_law_ends_here", "_law_lane", "_law_other", "_law_row", "_law_rest", "_law_told_here", "_law_behind", "_law_post"] (defScope s_law_free) rfl rfl (by decide +kernel)) (fun _ _ _ _ _ => (pg_name (i := 5) sc_law_free.nd rfl (by first | exact Or.inl rfl | exact Or.inr rfl))) (fun _ _ _ _ _ => (pts_one (pt_cmpR (op_neP (by have := (hr).units; exact this)) (pe_ix ix_seq (pv 5) pe_int fun _ _ => rfl) (pv 4) (nomark _)))) (fun _ _ _ _ _ => (pv 5))) pa_nil))))
      (pss_cons (ps_set (i := 7) sc_law_free.nd rfl (by first | exact Or.inl rfl | exact Or.inr rfl) (pe_dget (hu1 hr) (pe_call (F_law_ends.up (by decide)).ok hr rfl T.g_law_ends.1 T.g_law_ends.2 (F_law_ends.up (by decide)).bn .nil (pass_own rfl rfl rfl rfl) (pa_cons (pv 0) pa_nil)) (pv 3) fun _ _ => rfl))
      (pss_cons (ps_set (i := 8) sc_law_free.nd rfl (by first | exact Or.inl rfl | exact Or.inr rfl) (pe_call (F_law_ways.up (by decide)).ok hr rfl T.g_law_ways.1 T.g_law_ways.2 (F_law_ways.up (by decide)).bn .nil (pass_own rfl rfl rfl rfl) (pa_cons (pv 6) (pa_cons (pe_ix ix_seq (pv 7) pe_int fun _ _ => rfl) pa_nil))))
      (pss_cons (ps_if (pt_cmp (pc_dnotin (hu1 hr) (pe_ix ix_seq (pv 7) pe_int fun _ _ => rfl) (pe_call (F_law_ways.up (by decide)).ok hr rfl T.g_law_ways.1 T.g_law_ways.2 (F_law_ways.up (by decide)).bn .nil (pass_own rfl rfl rfl rfl) (pa_cons (pv 6) (pa_cons (pv 1) pa_nil)))) (by with_unfolding_all rfl))
      (pss_one (ps_ret pe_bl))
      pss_nil)
      (pss_one (ps_ret (pe_cmpR (op_neP (by have := (hr).units; exact this)) (pe_lc (te := (tVar 9)) (tt := (tB (tDIn (tVar 9) (tVar 8)))) (own := [("_law_post", 9)]) rfl sc_law_free.nd (pi_seq (pv 2)) (blk_ok ["_law_parts", "_law_start", "_law_ends_here", "_law_lane", "_law_other", "_law_row", "_law_rest", "_law_told_here", "_law_behind", "_law_post"] (defScope s_law_free) rfl rfl (by decide +kernel)) (fun _ _ _ _ _ => (pg_name (i := 9) sc_law_free.nd rfl (by first | exact Or.inl rfl | exact Or.inr rfl))) (fun _ _ _ _ _ => (pts_one (pt_cmp (pc_din (hu1 hr) (pv 9) (pv 8)) (by with_unfolding_all rfl)))) (fun _ _ _ _ _ => (pv 9))) (pe_lst pa_nil) (nomark _)))))))), fun ws ka out B F0 Q hC hR hX => ?_⟩)
  obtain ⟨a, b, c, d, e, rfl, ps, es, st, gs, l, o, rfl, rfl, rfl, rfl, rfl, hst, hps, hn, hpl, hel, hgl, hl, hb, rfl, rfl⟩ := hC
  obtain ⟨r, hr, rfl⟩ := List.mem_map.mp hl
  have hcl := cutE_len es [o]
  have hcn := cutE_nd hn [o]
  have hce : ∀ r ∈ cutE es [o], r.2.2 ∈ ps := fun r hr => (hps r (cutE_sub hr)).2
  have hrc : r ∈ cutE es [o] := cut_mem.mpr ⟨hr, hb⟩
  refine q_asg (w := .val (PtD ps (cutE es [o]))) ((evn_lst (ds := [.lst (stD ps), .lst (rwD (cutE es [o]))]) (ea2 (ev_ixV (ev_var rfl) ev_int .vl (atI_nat (j := 0) rfl)) (evn_filt (xs := es) (g := fun r => W.val (rwL r)) (f := rwL) (p := fun r => !decide (r.1 ∈ [o])) (ei_map (ts := es) (f := rwL) (ev_ixV (ev_var rfl) ev_int .vl (atI_nat (j := 1) rfl))) (by decide) (by omega) ⟨trivial, fun _ => trivial⟩ (fun r _ => (et_test (ev_neS (ev_ixV (ev_var rfl) ev_int .vt (atI_nat (j := 0) rfl)) (ev_var rfl))).to (by rw [Bool.eq_iff_iff]; simp)) (fun r _ _ => ev_var rfl)).lst) (show 2 ≤ 100000 by decide)).lst) ?_
  refine q_asg (w := .val (lnD r)) (ev_dgetV (d := lnD r) (ev_callP (ea1 (ev_var rfl)) ⟨_, rfl, ps, es, rfl, hn, by omega, rfl, rfl⟩) (ev_var rfl) .v (enD_getm hn hr)) ?_
  refine q_call (kr := []) (k1 := []) (ea2 (ev_var rfl) (ev_ixV (ev_var rfl) ev_int .vt (atI_nat (j := 1) rfl))) ⟨_, _, rfl, ps, cutE es [o], r.2.2, rfl, rfl, (hps r hr).2, hce, hpl, by omega, rfl, rfl⟩ (fun o k ⟨wy, h, _⟩ => ⟨_, h⟩) ?_
  rintro _ _ ⟨wy2, e, rfl, hwy2⟩
  cases e
  have e0 : decide (r.1 ∈ usedL (cutE es [o]) st gs) = (decide (r.2.1 ∈ rchL ps (cutE es [o]) st) && !decide ((gs.filter fun g => decide (g ∈ keysT wy2)) = [])) := by
    rw [Bool.eq_iff_iff, decide_eq_true_eq, used_row hcn hrc, usd_iff, Bool.and_eq_true, Bool.not_eq_true', decide_eq_false_iff_not, decide_eq_true_eq, mem_rchL]
    refine and_congr ⟨fun h => ⟨(hps r hr).1, h⟩, fun h => h.2⟩ ⟨fun ⟨g, hg, z⟩ y => ?_, fun h => ?_⟩
    · have : g ∈ gs.filter fun g => decide (g ∈ keysT wy2) := List.mem_filter.mpr ⟨hg, decide_eq_true ((hwy2.all g).mpr z)⟩
      rw [y] at this
      cases this
    · obtain ⟨g, hg⟩ := List.exists_mem_of_ne_nil _ h
      obtain ⟨h1, h2⟩ := List.mem_filter.mp hg
      exact ⟨g, h1, (hwy2.all g).mp (of_decide_eq_true h2)⟩
  refine q_when (k1 := []) (et_B (ev_dniR (bb := decide (r.2.1 ∈ rchL ps (cutE es [o]) st)) (ev_ixV (ev_var rfl) ev_int .vt (atI_nat (j := 0) rfl)) (evr_call (kr := []) (k1 := []) (ea2 (ev_var rfl) (ev_var rfl)) ⟨_, _, rfl, ps, cutE es [o], st, rfl, rfl, hst, hce, hpl, by omega, rfl, rfl⟩ (fun o k ⟨wy, h, _⟩ => ⟨_, h⟩)) ?rel)) (fun h => ?_) (fun h => ?_)
  case rel =>
    rintro w k ⟨d, k2, ⟨wy, h1, h2, hwy⟩, h4, h5⟩
    cases h1
    subst h4 h5
    refine ⟨by rw [h2]; rfl, _, _, .v, ?_⟩
    rw [wy_in hwy, Bool.eq_iff_iff, decide_eq_true_eq, decide_eq_true_eq, hwy.all, mem_rchL]
    exact ⟨fun z => ⟨(hps r hr).1, z⟩, fun z => z.2⟩
  · rw [Bool.not_eq_true'] at h
    rw [e0, h] at hR
    exact g_ret hR ev_bl ⟨rfl, rfl⟩
  · rw [Bool.not_eq_false'] at h
    rw [e0, h, Bool.true_and] at hR
    refine g_ret hR ((ev_ne (d := .lst (stD (gs.filter fun g => decide (g ∈ keysT wy2)))) (e := .lst []) (evn_filt (xs := gs) (g := fun s => W.val (.str s)) (f := fun s => D.str s) (p := fun g => decide (g ∈ keysT wy2)) (ei_strs (ev_var rfl)) (by decide) (by omega) ⟨trivial, fun _ => trivial⟩ (fun s hs => et_B ((ev_din (ev_var rfl) (ev_var rfl) .v).to (by rw [wy_in hwy2]))) (fun s hs _ => ev_var rfl)).lst (evn_lst (ds := []) ea_nil (by decide)).lst .v .v (pl_stD _ 60) rfl).to ?_) ⟨rfl, rfl⟩
    cases h : gs.filter fun g => decide (g ∈ keysT wy2) <;> rfl
end
theorem one_row {es : List Ln} {p : Ln → Bool} (hn : (lnN es).Nodup) {x : Ln} (hx : x ∈ es) (h : ∀ r ∈ es, p r = true ↔ r = x) : es.filter p = [x] := by
  induction es with
  | nil => cases hx
  | cons y l ih =>
    have hn2 := List.nodup_cons.mp hn
    rw [List.filter_cons]
    by_cases e : y = x
    · subst e
      rw [if_pos ((h y List.mem_cons_self).mpr rfl)]
      refine congrArg (y :: ·) (List.filter_eq_nil_iff.mpr fun r hr z => ?_)
      rw [(h r (List.mem_cons_of_mem _ hr)).mp z] at hr
      exact hn2.1 (List.mem_map.mpr ⟨y, hr, rfl⟩)
    · rw [if_neg fun z => e ((h y List.mem_cons_self).mp z)]
      exact ih hn2.2 ((List.mem_cons.mp hx).resolve_left fun z => e z.symm) fun r hr => h r (List.mem_cons_of_mem _ hr)
/-- a way out of a lot of posts leaves it by a lane -/
theorem leaves {es : List Ln} {q z : Str} {S : List Str} (h : Rch es q z) (hq : q ∈ S) (hz : z ∉ S) : ∃ r ∈ es, r.2.1 ∈ S ∧ r.2.2 ∉ S := by
  induction h with
  | refl => exact absurd hq hz
  | @step x r _ m e ih =>
    by_cases hx : x ∈ S
    · exact ⟨r, m, e ▸ hx, hz⟩
    · exact ih hx
/-- the posts that are reached without a lane are left by this lane alone -/
theorem gate_out {ps : List Str} {es : List Ln} {q z o : Str} (hn : (lnN es).Nodup) (hps : ∀ r ∈ es, r.2.1 ∈ ps ∧ r.2.2 ∈ ps) (hq : q ∈ ps) (h : Rch es q z) (hz : z ∉ rchL ps (cutE es [o]) q) : lnN (es.filter fun r => decide (r.2.1 ∈ rchL ps (cutE es [o]) q) && !decide (r.2.2 ∈ rchL ps (cutE es [o]) q)) = [o] := by
  have h0 : q ∈ rchL ps (cutE es [o]) q := mem_rchL.mpr ⟨hq, .refl⟩
  have only : ∀ r ∈ es, r.2.1 ∈ rchL ps (cutE es [o]) q → r.2.2 ∉ rchL ps (cutE es [o]) q → r.1 = o := fun r hr h1 h2 => Classical.byContradiction fun ne => h2 (mem_rchL.mpr ⟨(hps r hr).2, Rch.step (mem_rchL.mp h1).2 (cut_mem.mpr ⟨hr, ne⟩) rfl⟩)
  obtain ⟨r, hr, h1, h2⟩ := leaves h h0 hz
  have e := only r hr h1 h2
  rw [one_row hn hr fun r' hr' => ?_]
  · exact congrArg (fun x => [x]) e
  · rw [Bool.and_eq_true, decide_eq_true_eq, Bool.not_eq_true', decide_eq_false_iff_not]
    constructor
    · rintro ⟨h3, h4⟩
      exact row_same hn hr' hr ((only r' hr' h3 h4).trans e.symm)
    · rintro rfl
      exact ⟨h1, h2⟩
/-- what is told of a gate -/
theorem gate_cases {ps : List Str} {es : List Ln} {st : Str} {gs : List Str} {r : Ln} {o : Str} (hn : (lnN es).Nodup) (hps : ∀ r ∈ es, r.2.1 ∈ ps ∧ r.2.2 ∈ ps) (hst : st ∈ ps) (hr : r ∈ es) (hu : r.1 ∈ usedL es st gs) (ho : r.1 ≠ o) :
    (r.1 ∈ usedL (cutE es [o]) st gs ∧ gateD ps es st gs r.1 o = .non) ∨ (r.1 ∉ usedL (cutE es [o]) st gs ∧ ∃ (s : Str) (S : List Str), gateD ps es st gs r.1 o = .tup [.str s, .tup (stD S)] ∧ (∀ p ∈ S, p ∈ ps) ∧ S.length ≤ ps.length ∧ lnN (es.filter fun r => decide (r.2.1 ∈ S) && !decide (r.2.2 ∈ S)) = [o] ∧
      ((s = "before" ∧ st ∈ S ∧ r.2.1 ∉ S) ∨ (s = "behind" ∧ r.2.2 ∈ S ∧ (gs.filter fun p => decide (p ∈ S)) = []))) := by
  have hrc : r ∈ cutE es [o] := cut_mem.mpr ⟨hr, ho⟩
  have hcn := cutE_nd hn [o]
  obtain ⟨u1, g, hg, u2⟩ := usd_iff.mp ((used_row hn hr).mp hu)
  have sub : ∀ q, ∀ p ∈ rchL ps (cutE es [o]) q, p ∈ ps := fun q p hp => (mem_rchL.mp hp).1
  have ul : r.1 ∈ usedL (cutE es [o]) st gs ↔ Rch (cutE es [o]) st r.2.1 ∧ ∃ g ∈ gs, Rch (cutE es [o]) r.2.2 g := (used_row hcn hrc).trans usd_iff
  unfold gateD
  rw [stO_eq hn hr, enO_eq hn hr]
  by_cases h1 : r.2.1 ∈ rchL ps (cutE es [o]) st
  rotate_left
  · rw [if_neg h1]
    refine .inr ⟨fun z => h1 (mem_rchL.mpr ⟨(hps r hr).1, (ul.mp z).1⟩), "before", _, rfl, sub st, rchL_len .., gate_out hn hps hst u1 h1, .inl ⟨rfl, mem_rchL.mpr ⟨hst, .refl⟩, h1⟩⟩
  rw [if_pos h1]
  by_cases h2 : (gs.filter fun p => decide (p ∈ rchL ps (cutE es [o]) r.2.2)) = []
  · rw [if_pos h2]
    have none : ∀ p ∈ gs, p ∉ rchL ps (cutE es [o]) r.2.2 := fun p hp z => by
      have := List.filter_eq_nil_iff.mp h2 p hp
      exact this (decide_eq_true z)
    refine .inr ⟨fun z => ?_, "behind", _, rfl, sub r.2.2, rchL_len .., gate_out hn hps (hps r hr).2 u2 (none g hg), .inr ⟨rfl, mem_rchL.mpr ⟨(hps r hr).2, .refl⟩, h2⟩⟩
    obtain ⟨_, g', hg', z'⟩ := ul.mp z
    refine none g' hg' (mem_rchL.mpr ⟨?_, z'⟩)
    cases z' with
    | refl => exact (hps r hr).2
    | step _ m e => exact (hps _ (cutE_sub m)).2
  · rw [if_neg h2]
    obtain ⟨p, hp⟩ := List.exists_mem_of_ne_nil _ h2
    obtain ⟨h3, h4⟩ := List.mem_filter.mp hp
    exact .inl ⟨ul.mpr ⟨(mem_rchL.mp h1).2, p, h3, (mem_rchL.mp (of_decide_eq_true h4)).2⟩, rfl⟩
def ct_law_right (K : PySem.W.Frag) : Ct := Ct4 fun a b c d ka out => ∃ ps es st gs r o s S, a = .val (PtD ps es) ∧ b = .val (.str st) ∧ c = .val (.lst (stD gs)) ∧ d = .val (.tup [.str r.1, .str o, .tup [.str s, .tup (stD S)]]) ∧ r ∈ es ∧ (lnN es).Nodup ∧ es.length ≤ 10000 ∧ gs.length ≤ 1000 ∧ S.length ≤ 1000 ∧ (∀ p ∈ S, p ∈ ps) ∧ lnN (es.filter fun r => decide (r.2.1 ∈ S) && !decide (r.2.2 ∈ S)) = [o] ∧
  ((s = "before" ∧ st ∈ S ∧ r.2.1 ∉ S) ∨ (s = "behind" ∧ r.2.2 ∈ S ∧ (gs.filter fun p => decide (p ∈ S)) = [])) ∧ ka = [] ∧ out = Rt (.bl true) []
section
variable {P : Program} {w : World} {K : PySem.W.Frag} {mg : Str → Option Value} {base : Heap}
theorem ok_law_right (T : Tx K mg) (F_law_ends : Fn P w K mg base 4 (He.ga K "_law_ends") ["_law_parts"] (ct_law_ends K)) : Fn P w K mg base 6 (He.ga K "_law_right") ["_law_parts", "_law_start", "_law_ends_here", "_law_told_here"] (ct_law_right K) := by
  obtain ⟨fd, F⟩ := T.d_law_right
  refine fn_ok F sc_law_right (fun _ _ _ _ _ _ us hl => match us, hl with | [_, _, _, _], _ => rfl) ct4_len (fun cdv A outer s H E hr => ⟨_, (pss_cons (ps_asg (pv 3) (pg_tup rfl (pgs_cons (pg_name (i := 4) sc_law_right.nd rfl (by first | exact Or.inl rfl | exact Or.inr rfl)) (pgs_cons (pg_name (i := 5) sc_law_right.nd rfl (by first | exact Or.inl rfl | exact Or.inr rfl)) (pgs_cons (pg_name (i := 6) sc_law_right.nd rfl (by first | exact Or.inl rfl | exact Or.inr rfl)) pgs_nil)))))
      (pss_cons (ps_if (PW.pt (pw_or (pt_not (pt_val (pe_callB call_isi rfl T.n_isinstance (by decide +kernel) (pa_cons (pv 6) (pa_cons (pe_bltn (v := .ty "tuple") rfl T.n_tuple (by decide +kernel) rfl) pa_nil))))) (pw_or (pt_cmpR (op_neP (by have := (hr).units; exact this)) (pe_callB call_lenU rfl T.n_len (by decide +kernel) (pa_cons (pv 6) pa_nil)) pe_int (nomark _)) (pw_or1 (pt_not (pt_val (pe_callB call_isi rfl T.n_isinstance (by decide +kernel) (pa_cons (pe_ix ix_seq (pv 6) pe_int fun _ _ => rfl) (pa_cons (pe_bltn (v := .ty "tuple") rfl T.n_tuple (by decide +kernel) rfl) pa_nil)))))))))
      (pss_one (ps_ret pe_bl))
      pss_nil)
      (pss_cons (ps_asg (pv 6) (pg_tup rfl (pgs_cons (pg_name (i := 7) sc_law_right.nd rfl (by first | exact Or.inl rfl | exact Or.inr rfl)) (pgs_cons (pg_name (i := 8) sc_law_right.nd rfl (by first | exact Or.inl rfl | exact Or.inr rfl)) pgs_nil))))
      (pss_cons (ps_asg (pe_dget (hu1 hr) (pe_call (F_law_ends.up (by decide)).ok hr rfl T.g_law_ends.1 T.g_law_ends.2 (F_law_ends.up (by decide)).bn .nil (pass_own rfl rfl rfl rfl) (pa_cons (pv 0) pa_nil)) (pv 4) fun _ _ => rfl) (pg_tup rfl (pgs_cons (pg_name (i := 9) sc_law_right.nd rfl (by first | exact Or.inl rfl | exact Or.inr rfl)) (pgs_cons (pg_name (i := 10) sc_law_right.nd rfl (by first | exact Or.inl rfl | exact Or.inr rfl)) pgs_nil))))
      (pss_cons (ps_if (pt_cmpR (op_neP (by have := (hr).units; exact this)) (pe_lc (te := (tVar 11)) (tt := (tTest (tOp (rNiU K) (tVar 11) (tOp (rIx K) (tVar 0) (tC (.int 0)))))) (own := [("_law_post", 11)]) rfl sc_law_right.nd (pi_seq (pv 8)) (blk_ok ["_law_parts", "_law_start", "_law_ends_here", "_law_told_here", "_law_lane", "_law_other", "_law_found", "_law_side", "_law_posts", "_law_first", "_law_second", "_law_post", "_law_shut", "_law_row", "_law_out"] (defScope s_law_right) rfl rfl (by decide +kernel)) (fun _ _ _ _ _ => (pg_name (i := 11) sc_law_right.nd rfl (by first | exact Or.inl rfl | exact Or.inr rfl))) (fun _ _ _ _ _ => (pts_one (pt_cmpR op_niU (pv 11) (pe_ix ix_seq (pv 0) pe_int fun _ _ => rfl) (by with_unfolding_all rfl)))) (fun _ _ _ _ _ => (pv 11))) (pe_lst pa_nil) (nomark _))
      (pss_one (ps_ret pe_bl))
      pss_nil)
      (pss_cons (ps_if (PW.pt (pw_and (pt_cmpR (op_eqP (by have := (hr).units; exact this)) (pv 7) pe_str (nomark _)) (pw_and1 (PW.pt (pw_or (pt_cmpR op_niU (pv 1) (pv 8) (by with_unfolding_all rfl)) (pw_or1 (pt_cmpR op_inU (pv 9) (pv 8) (by with_unfolding_all rfl))))))))
      (pss_one (ps_ret pe_bl))
      pss_nil)
      (pss_cons (ps_setLc (i := 12) (te := (tVar 11)) (tt := (tTest (tOp (rInU K) (tVar 11) (tVar 8)))) (own := [("_law_post", 11)]) rfl sc_law_right.nd rfl rfl rfl (pi_seq (pv 2)) (blk_ok ["_law_parts", "_law_start", "_law_ends_here", "_law_told_here", "_law_lane", "_law_other", "_law_found", "_law_side", "_law_posts", "_law_first", "_law_second", "_law_post", "_law_shut", "_law_row", "_law_out"] (defScope s_law_right) rfl rfl (by decide +kernel)) (fun _ _ _ _ _ => (pg_name (i := 11) sc_law_right.nd rfl (by first | exact Or.inl rfl | exact Or.inr rfl))) (fun _ _ _ _ _ => (pts_one (pt_cmpR op_inU (pv 11) (pv 8) (by with_unfolding_all rfl)))) (fun _ _ _ _ _ => (pv 11)))
      (pss_cons (ps_if (PW.pt (pw_and (pt_cmpR (op_eqP (by have := (hr).units; exact this)) (pv 7) pe_str (nomark _)) (pw_and1 (PW.pt (pw_or (pt_cmpR op_niU (pv 10) (pv 8) (by with_unfolding_all rfl)) (pw_or1 (pt_cmpR (op_neP (by have := (hr).units; exact this)) (pv 12) (pe_lst pa_nil) (nomark _))))))))
      (pss_one (ps_ret pe_bl))
      pss_nil)
      (pss_cons (ps_setLc (i := 14) (te := (tOp (rIx K) (tVar 13) (tC (.int 0)))) (tt := (tAnd (tTest (tOp (rInU K) (tOp (rIx K) (tVar 13) (tC (.int 1))) (tVar 8))) (tTest (tOp (rNiU K) (tOp (rIx K) (tVar 13) (tC (.int 2))) (tVar 8))))) (own := [("_law_row", 13)]) rfl sc_law_right.nd rfl rfl rfl (pi_seq (pe_ix ix_seq (pv 0) pe_int fun _ _ => rfl)) (blk_ok ["_law_parts", "_law_start", "_law_ends_here", "_law_told_here", "_law_lane", "_law_other", "_law_found", "_law_side", "_law_posts", "_law_first", "_law_second", "_law_post", "_law_shut", "_law_row", "_law_out"] (defScope s_law_right) rfl rfl (by decide +kernel)) (fun _ _ _ _ _ => (pg_name (i := 13) sc_law_right.nd rfl (by first | exact Or.inl rfl | exact Or.inr rfl))) (fun _ _ _ _ _ => (pts_one (PW.pt (pw_and (pt_cmpR op_inU (pe_ix ix_seq (pv 13) pe_int fun _ _ => rfl) (pv 8) (by with_unfolding_all rfl)) (pw_and1 (pt_cmpR op_niU (pe_ix ix_seq (pv 13) pe_int fun _ _ => rfl) (pv 8) (by with_unfolding_all rfl))))))) (fun _ _ _ _ _ => (pe_ix ix_seq (pv 13) pe_int fun _ _ => rfl)))
      (pss_one (ps_ret (pe_and (pe_cmpR op_inU (pv 7) (pe_tup (pa_cons pe_str (pa_cons pe_str pa_nil))) (by with_unfolding_all rfl)) (pe_one (pe_cmpR (op_eqP (by have := (hr).units; exact this)) (pv 14) (pe_lst (pa_cons (pv 5) pa_nil)) (nomark _))))))))))))))), fun ws ka out B F0 Q hC hR hX => ?_⟩)
  obtain ⟨a, b, c, d, rfl, ps, es, st, gs, r, o, s, S, rfl, rfl, rfl, rfl, hr, hn, hel, hgl, hSl, hSp, hout, hcase, rfl, rfl⟩ := hC
  refine q_asgT (ev_var rfl) at_t3 ?_
  refine q_when (et_or0 ((et_not (et_B (ev_isi (ev_var rfl) (tw_of (T := "tuple") rfl) T.kt_tuple_tuple))).to (b := false) rfl) (et_or0 ((et_test (ev_neI (ev_len (ev_var rfl) .vt) ev_int)).to (b := false) rfl) ((et_not (et_B (ev_isi (ev_ixV (d := .tup (stD S)) (ev_var rfl) ev_int .vt (atI_nat (j := 1) rfl)) (tw_of (T := "tuple") rfl) T.kt_tuple_tuple))).to (b := false) rfl))) (fun z => by cases z) (fun _ => ?_)
  refine q_asgT (ev_var rfl) at_t2 ?_
  refine q_asgT (w := .val (lnD r)) (ev_dgetV (d := lnD r) (ev_callP (ea1 (ev_var rfl)) ⟨_, rfl, ps, es, rfl, hn, by omega, rfl, rfl⟩) (ev_var rfl) .v (enD_getm hn hr)) at_t2 ?_
  have n1 : (S.filter fun p => !decide (p ∈ ps)) = [] := List.filter_eq_nil_iff.mpr fun p hp => by simp [hSp p hp]
  refine q_when ((et_test (ev_ne (d := .lst (stD (S.filter fun p => !decide (p ∈ ps)))) (e := .lst []) (evn_filt (xs := S) (g := fun s => W.val (.str s)) (f := fun s => D.str s) (p := fun p => !decide (p ∈ ps)) (ei_strsL (ev_var rfl) .vt) (by decide) (by omega) ⟨trivial, fun _ => trivial⟩ (fun p hp => et_test (ev_niL (tt := false) (b := false) (ss := ps) (ev_var rfl) (ev_ixV (ev_var rfl) ev_int .vl (atI_nat (j := 0) rfl)) .vl)) (fun p hp _ => ev_var rfl)).lst (evn_lst (ds := []) ea_nil (by decide)).lst .v .v (pl_stD _ 60) rfl)).to (b := false) (by rw [n1]; rfl)) (fun z => by cases z) (fun _ => ?_)
  have ne1 : ("behind" == "before") = false := rfl
  refine q_when ((et_and (et_test (ev_eqS (ev_var rfl) ev_str)) fun _ => et_or (et_test (ev_niL (tt := true) (b := false) (ss := S) (ev_var rfl) (ev_var rfl) .vt)) fun _ => et_test (ev_inL (tt := true) (b := false) (ss := S) (ev_var rfl) (ev_var rfl) .vt)).to (b := false) (by
    rcases hcase with ⟨rfl, h1, h2⟩ | ⟨rfl, _, _⟩
    · rw [decide_eq_true h1, decide_eq_false h2]; rfl
    · rfl)) (fun z => by cases z) (fun _ => ?_)
  refine q_asg (w := .val (.lst (stD (gs.filter fun p => decide (p ∈ S))))) (evn_filt (xs := gs) (g := fun s => W.val (.str s)) (f := fun s => D.str s) (p := fun p => decide (p ∈ S)) (ei_strs (ev_var rfl)) (by decide) (by omega) ⟨trivial, fun _ => trivial⟩ (fun p hp => et_test (ev_inL (tt := true) (b := false) (ss := S) (ev_var rfl) (ev_var rfl) .vt)) (fun p hp _ => ev_var rfl)).lst ?_
  refine q_when ((et_and (et_test (ev_eqS (ev_var rfl) ev_str)) fun _ => et_or (et_test (ev_niL (tt := true) (b := false) (ss := S) (ev_var rfl) (ev_var rfl) .vt)) fun _ => et_test (ev_ne (d := .lst (stD (gs.filter fun p => decide (p ∈ S)))) (e := .lst []) (ev_var rfl) (evn_lst (ds := []) ea_nil (by decide)).lst .v .v (pl_stD _ 60) rfl)).to (b := false) (by
    rcases hcase with ⟨rfl, _, _⟩ | ⟨rfl, h1, h2⟩
    · rfl
    · rw [decide_eq_true h1, h2]; rfl)) (fun z => by cases z) (fun _ => ?_)
  refine q_asg (w := .val (.lst (stD (lnN (es.filter fun r => decide (r.2.1 ∈ S) && !decide (r.2.2 ∈ S)))))) ((evn_filt (xs := es) (g := fun r => W.val (rwL r)) (f := fun r => D.str r.1) (p := fun r => decide (r.2.1 ∈ S) && !decide (r.2.2 ∈ S)) (ei_map (ts := es) (f := rwL) (ev_ixV (ev_var rfl) ev_int .vl (atI_nat (j := 1) rfl))) (by decide) (by omega) ⟨trivial, fun _ => trivial⟩ (fun r _ => et_and (et_test (ev_inL (tt := true) (b := false) (ss := S) (ev_ixV (ev_var rfl) ev_int .vt (atI_nat (j := 1) rfl)) (ev_var rfl) .vt)) fun _ => et_test (ev_niL (tt := true) (b := false) (ss := S) (ev_ixV (ev_var rfl) ev_int .vt (atI_nat (j := 2) rfl)) (ev_var rfl) .vt)) (fun r _ _ => ev_ixV (ev_var rfl) ev_int .vt (atI_nat (j := 0) rfl))).lst.to (by
    unfold lnN stD
    rw [List.map_map]
    rfl)) ?_
  refine g_ret hR ((ev_andV (ev_inL (tt := true) (b := false) (ss := ["before", "behind"]) (ev_var rfl) (ev_tup (ds := [.str "before", .str "behind"]) (ea2 ev_str ev_str) (show 2 ≤ 100000 by decide)) .vt) fun _ => ev_eq (d := .lst (stD (lnN (es.filter fun r => decide (r.2.1 ∈ S) && !decide (r.2.2 ∈ S))))) (e := .lst [.str o]) (ev_var rfl) (evn_lst (ds := [.str o]) (ea1 (ev_var rfl)) (show 1 ≤ 100000 by decide)).lst .v .v (pl_stD _ 60) rfl).to (w' := .val (.bl true)) ?_) ⟨rfl, rfl⟩
  rw [hout]
  have e1 : eqD (.lst (stD [o])) (.lst [.str o]) = true := eqD_refl 61 _ rfl
  rw [e1]
  rcases hcase with ⟨rfl, _⟩ | ⟨rfl, _⟩ <;> rfl
end
/-- a run of a course -/
def isRun (es : List Ln) (st : Str) (gs ls : List Str) : Prop := ∃ q ∈ gs, Wk es st ls q
theorem wk_split {es : List Ln} {q : Str} {a : Str} : ∀ {ls : List Str} {p : Str}, Wk es p ls q → a ∈ ls → ∃ r ∈ es, r.1 = a ∧ Rch es p r.2.1 ∧ Rch es r.2.2 q
  | l :: ls, p, ⟨r, m, e1, e2, h⟩, ha => by
    rcases List.mem_cons.mp ha with rfl | ha
    · refine ⟨r, m, e1, ?_, Wk.rch .refl h⟩
      rw [e2]
      exact .refl
    · obtain ⟨r', m', e3, h1, h2⟩ := wk_split h ha
      refine ⟨r', m', e3, ?_, h2⟩
      rw [← e2]
      exact Rch.head m h1
theorem rch_way {es : List Ln} {p q : Str} (h : Rch es p q) : ∃ ls, Wk es p ls q := by
  induction h with
  | refl => exact ⟨[], rfl⟩
  | @step x r _ m e ih =>
    obtain ⟨ls, hw⟩ := ih
    subst e
    exact ⟨_, Wk.end_ hw m⟩
theorem used_run {es : List Ln} {st : Str} {gs : List Str} {a : Str} : a ∈ usedL es st gs ↔ ∃ ls, isRun es st gs ls ∧ a ∈ ls := by
  constructor
  · intro h
    obtain ⟨r, hr, rfl, hu⟩ := used_sub h
    obtain ⟨h1, g, hg, h2⟩ := usd_iff.mp hu
    obtain ⟨l1, w1⟩ := rch_way h1
    obtain ⟨l2, w2⟩ := rch_way h2
    exact ⟨l1 ++ r.1 :: l2, ⟨g, hg, Wk.app w1 ⟨r, hr, rfl, rfl, w2⟩⟩, List.mem_append_right _ List.mem_cons_self⟩
  · rintro ⟨ls, ⟨g, hg, w⟩, ha⟩
    obtain ⟨r, hr, rfl, h1, h2⟩ := wk_split w ha
    exact List.mem_map.mpr ⟨r, List.mem_filter.mpr ⟨hr, usd_iff.mpr ⟨h1, g, hg, h2⟩⟩, rfl⟩
theorem wk_cut {es : List Ln} {b q : Str} : ∀ {ls : List Str} {p : Str}, Wk (cutE es [b]) p ls q ↔ Wk es p ls q ∧ b ∉ ls
  | [], p => ⟨fun h => ⟨h, List.not_mem_nil⟩, fun h => h.1⟩
  | l :: ls, p => by
    constructor
    · rintro ⟨r, m, e1, e2, h⟩
      obtain ⟨h1, h2⟩ := wk_cut.mp h
      obtain ⟨m1, m2⟩ := cut_mem.mp m
      refine ⟨⟨r, m1, e1, e2, h1⟩, fun z => ?_⟩
      rcases List.mem_cons.mp z with z | z
      · exact m2 (e1.trans z.symm)
      · exact h2 z
    · rintro ⟨⟨r, m, e1, e2, h⟩, z⟩
      exact ⟨r, cut_mem.mpr ⟨m, fun e => z (List.mem_cons.mpr (.inl (e.symm.trans e1)))⟩, e1, e2, wk_cut.mpr ⟨h, fun y => z (List.mem_cons_of_mem _ y)⟩⟩
theorem run_cut {es : List Ln} {st : Str} {gs : List Str} {b : Str} {ls : List Str} : isRun (cutE es [b]) st gs ls ↔ isRun es st gs ls ∧ b ∉ ls := by
  unfold isRun
  constructor
  · rintro ⟨q, hq, h⟩
    obtain ⟨h1, h2⟩ := wk_cut.mp h
    exact ⟨⟨q, hq, h1⟩, h2⟩
  · rintro ⟨⟨q, hq, h⟩, h2⟩
    exact ⟨q, hq, wk_cut.mpr ⟨h, h2⟩⟩
/-! ### the machine of one lane -/
theorem one_mc (x : Str) : mcT (wdT x []) 0 = ⟨[(true, [x])], [0], [0], [], false⟩ := rfl
theorem one_beg (x y : Str) (ns : List Nat) : begM (mcT (wdT x []) 0) ns y = if y = x then [0] else [] := by
  rw [one_mc]
  unfold begM
  have e : (List.range ([(true, [x])] : List (Bool × List Str)).length) = [0] := rfl
  rw [e]
  have t : tkM ⟨[(true, [x])], [0], [0], [], false⟩ 0 y = decide (y = x) := by
    show atB (true, [x]) y = _
    unfold atB
    by_cases h : y = x <;> simp [h]
  simp only [List.filter_cons, List.filter_nil]
  rw [show (decide (0 ∈ ([0] : List Nat)) || behM ⟨[(true, [x])], [0], [0], [], false⟩ ns 0) = true from by simp]
  simp only [if_true, List.filter_cons, List.filter_nil, t]
  by_cases h : y = x <;> simp [h]
theorem one_done (x : Str) (ns : List Nat) : doneM (mcT (wdT x []) 0) ns = decide (0 ∈ ns) := by
  rw [one_mc]
  unfold doneM
  rw [Bool.eq_iff_iff, List.any_eq_true, decide_eq_true_eq]
  constructor
  · rintro ⟨p, hp, h⟩
    rw [decide_eq_true_eq, List.mem_singleton] at h
    exact h ▸ hp
  · exact fun h => ⟨0, h, decide_eq_true (List.mem_singleton.mpr rfl)⟩
theorem one_shw (x : Str) (ls : List Str) : shw (mcT (wdT x []) 0) ls ↔ x ∈ ls := by
  induction ls using row_ind with
  | h0 => exact ⟨fun h => absurd h shw_nil, fun h => by cases h⟩
  | h1 ls y ih =>
    rw [shw_snoc, ih, one_beg, one_done, decide_eq_true_eq, List.mem_append, List.mem_singleton]
    refine or_congr Iff.rfl ?_
    by_cases h : y = x
    · rw [if_pos h]
      exact ⟨fun _ => h.symm, fun _ => List.mem_singleton.mpr rfl⟩
    · rw [if_neg h]
      exact ⟨fun z => (nomatch z), fun z => absurd z.symm h⟩
/-- a run that takes one lane and not another one -/
theorem one_good {es : List Ln} {st : Str} {gs ls : List Str} {l x : Str} : GoodRun es st gs [l] (mcT (wdT x []) 0) ls ↔ isRun es st gs ls ∧ l ∈ ls ∧ x ∉ ls := by
  unfold GoodRun isRun
  rw [one_shw]
  constructor
  · rintro ⟨h1, h2, _, h3⟩
    exact ⟨h1, h2 l (List.mem_singleton.mpr rfl), h3⟩
  · rintro ⟨h1, h2, h3⟩
    exact ⟨h1, fun w hw => by rw [List.mem_singleton.mp hw]; exact h2, rfl, h3⟩
theorem nm_ok1 {x : Str} (h : isNm x = true) : nmOk (.str x) ∧ isNmD (.str x) = true := ⟨Nat.le_trans (isNm_len h) (by decide), h⟩
/-- what one name stands for -/
theorem ap_one {K : PySem.W.Frag} {P : Tr → Oc} {x : Str} (h : isNm x = true) : apOut K P [.str x] = P (wdT x []) := by
  unfold apOut
  rw [List.find?_eq_none.mpr fun d hd => by rw [List.mem_singleton.mp hd, (nm_ok1 h).2]; decide]
  rfl
theorem cu_one {K : PySem.W.Frag} {es : List Ln} {st : Str} {gs : List Str} {l : Str} {P : Oc} (h : l ∈ usedL es st gs) : cuThen K es st gs [l] P = P := by
  unfold cuThen
  rw [List.find?_eq_none.mpr fun w hw => by rw [List.mem_singleton.mp hw]; simp [used_in h], List.find?_eq_none.mpr fun w hw => by rw [List.mem_singleton.mp hw]; simp [h]]
theorem gk_no1 {ps : List Str} {es : List Ln} {st : Str} {gs : List Str} {l o : Str} (h : l ∉ lnN es) : gk ps es st gs l o = .no l := by
  unfold gk
  rw [List.find?_cons, decide_eq_false h]
  rfl
theorem gk_no2 {ps : List Str} {es : List Ln} {st : Str} {gs : List Str} {l o : Str} (h : l ∈ lnN es) (h2 : o ∉ lnN es) : gk ps es st gs l o = .no o := by
  unfold gk
  rw [List.find?_cons, decide_eq_true h, List.find?_cons, decide_eq_false h2]
  rfl
theorem gk_in {ps : List Str} {es : List Ln} {st : Str} {gs : List Str} {l o : Str} (h : l ∈ lnN es) (h2 : o ∈ lnN es) : gk ps es st gs l o = if l = o then .same l else if l ∈ usedL es st gs then .ok (gateD ps es st gs l o) else .run l := by
  unfold gk
  rw [List.find?_eq_none.mpr fun x hx => by
    rcases List.mem_cons.mp hx with rfl | hx
    · simp [h]
    · rw [List.mem_singleton.mp hx]
      simp [h2]]
/-- x is None, x told by a word -/
theorem ev_isNR {K : PySem.W.Frag} {ro : Ro} {ka k1 : Cells} {te : TE} {P : W → Cells → Prop} {bb : Bool} (h : EvR K te ro ka P) (hP : ∀ w k, P w k → (∃ d, w = .val d ∧ isNonD d = bb) ∧ k1.Sublist k) : EvD K (tOp rIsN te (tC .non)) ro ka (.val (.bl bb)) k1 := fun B F0 ta sg H Q e q => h B F0 ta sg H _ e fun w k v H' p e' => by
  obtain ⟨⟨d, rfl, rfl⟩, s⟩ := hP w k p
  refine ⟨rfl, ?_⟩
  rw [e'.isN List.mem_cons_self (.inl rfl)]
  exact q _ _ ((e'.less s).pop.push_imm fun _ => rfl)
def ct_law (K : PySem.W.Frag) : Ct := Ct1 fun a ka out => ∃ ns, Scr K a ns ∧ ka = [] ∧ out = Rt (.bl true) []
section
variable {P : Program} {w : World} {K : PySem.W.Frag} {mg : Str → Option Value} {base : Heap}
theorem ok_law {fd : FuncData} (T : Tx K mg) (F_law_built : Fn P w K mg base 8 (He.ga K "_law_built") ["_law_parts"] (ct_law_built K)) (F_Course___init : Fn P w K mg base 8 (He.ma K (He.ga K "Course") "__init__") ["self", "net", "start", "ends"] (ct_Course___init K)) (F_without : Fn P w K mg base 28 (He.ga K "without") ["course", "lane", "pattern"] (ct_without K)) (F_law_cell : Fn P w K mg base 4 (He.ga K "_law_cell") ["_law_script", "_law_k"] (ct_law_cell K)) (F_law_pool : Fn P w K mg base 4 (He.ga K "_law_pool") ["_law_cell_here"] (ct_law_pool K)) (F_law_line_net : Fn P w K mg base 8 (He.ga K "_law_line_net") ["_law_pool_here", "_law_most", "_law_lanes_here"] (ct_law_line_net K)) (F_law_course : Fn P w K mg base 6 (He.ga K "_law_course") ["_law_pool_here", "_law_parts"] (ct_law_course K)) (F_law_lanes : Fn P w K mg base 4 (He.ga K "_law_lanes") ["_law_parts"] (ct_law_lanes K)) (F_law_stranger : Fn P w K mg base 6 (He.ga K "_law_stranger") ["_law_pool_here", "_law_names"] (ct_law_stranger K)) (F_law_used : Fn P w K mg base 6 (He.ga K "_law_used") ["_law_parts", "_law_start", "_law_ends_here"] (ct_law_used K)) (F_law_told : Fn P w K mg base 16 (He.ga K "_law_told") ["_law_course_here", "_law_lane", "_law_other"] (ct_law_told K)) (F_law_free : Fn P w K mg base 6 (He.ga K "_law_free") ["_law_parts", "_law_start", "_law_ends_here", "_law_lane", "_law_other"] (ct_law_free K)) (F_law_right : Fn P w K mg base 6 (He.ga K "_law_right") ["_law_parts", "_law_start", "_law_ends_here", "_law_told_here"] (ct_law_right K)) (F : FunD K "law" "law" (defArgs s_law) (defBody s_law) (defScope s_law) [] [] (He.ga K "law") fd) : FnOk P w K mg base (L2.CX P w) 30 (He.ga K "law") fd ["_law_script"] (spC K (ct_law K)) := by
  refine fn_okF F sc_law (fun _ _ _ _ _ _ us hl => match us, hl with | [_], _ => rfl) ct1_len (fun cdv A outer s H E hr => ⟨_, (pss_cons (ps_for (passes_of rfl) rfl (pi_range1 rfl T.n_range (pa_cons pe_int pa_nil)) (pg_name (i := 1) sc_law.nd rfl (by first | exact Or.inl rfl | exact Or.inr rfl)) (pss_cons (ps_set (i := 2) sc_law.nd rfl (by first | exact Or.inl rfl | exact Or.inr rfl) (pe_call (F_law_pool.up (by decide)).ok hr rfl T.g_law_pool.1 T.g_law_pool.2 (F_law_pool.up (by decide)).bn .nil (pass_own rfl rfl rfl rfl) (pa_cons (pe_op op_addU (pe_call (F_law_cell.up (by decide)).ok hr rfl T.g_law_cell.1 T.g_law_cell.2 (F_law_cell.up (by decide)).bn .nil (pass_own rfl rfl rfl rfl) (pa_cons (pv 0) (pa_cons (pv 1) pa_nil))) (pv 1)) pa_nil)))
      (pss_cons (ps_set (i := 3) sc_law.nd rfl (by first | exact Or.inl rfl | exact Or.inr rfl) (pe_call (F_law_line_net.up (by decide)).ok hr rfl T.g_law_line_net.1 T.g_law_line_net.2 (F_law_line_net.up (by decide)).bn .nil (pass_own rfl rfl rfl rfl) (pa_cons (pv 2) (pa_cons pe_int (pa_cons pe_int pa_nil)))))
      (pss_cons (ps_asg (pe_call (F_law_course.up (by decide)).ok hr rfl T.g_law_course.1 T.g_law_course.2 (F_law_course.up (by decide)).bn .nil (pass_own rfl rfl rfl rfl) (pa_cons (pv 2) (pa_cons (pv 3) pa_nil))) (pg_tup rfl (pgs_cons (pg_name (i := 4) sc_law.nd rfl (by first | exact Or.inl rfl | exact Or.inr rfl)) (pgs_cons (pg_name (i := 5) sc_law.nd rfl (by first | exact Or.inl rfl | exact Or.inr rfl)) pgs_nil))))
      (pss_cons (ps_set (i := 6) sc_law.nd rfl (by first | exact Or.inl rfl | exact Or.inr rfl) (pe_make T.mk_Course (F_Course___init.up (by decide)).ok hr rfl T.g_Course.1 (F_Course___init.up (by decide)).bn .nil (pass_own rfl rfl rfl rfl) (pa_cons (pe_call (F_law_built.up (by decide)).ok hr rfl T.g_law_built.1 T.g_law_built.2 (F_law_built.up (by decide)).bn .nil (pass_own rfl rfl rfl rfl) (pa_cons (pv 3) pa_nil)) (pa_cons (pv 4) (pa_cons (pv 5) pa_nil)))))
      (pss_cons (ps_set (i := 7) sc_law.nd rfl (by first | exact Or.inl rfl | exact Or.inr rfl) (pe_call (F_law_used.up (by decide)).ok hr rfl T.g_law_used.1 T.g_law_used.2 (F_law_used.up (by decide)).bn .nil (pass_own rfl rfl rfl rfl) (pa_cons (pv 3) (pa_cons (pv 4) (pa_cons (pv 5) pa_nil)))))
      (pss_cons (ps_set (i := 8) sc_law.nd rfl (by first | exact Or.inl rfl | exact Or.inr rfl) (pe_call (F_law_lanes.up (by decide)).ok hr rfl T.g_law_lanes.1 T.g_law_lanes.2 (F_law_lanes.up (by decide)).bn .nil (pass_own rfl rfl rfl rfl) (pa_cons (pv 3) pa_nil)))
      (pss_cons (ps_set (i := 9) sc_law.nd rfl (by first | exact Or.inl rfl | exact Or.inr rfl) (pe_call (F_law_stranger.up (by decide)).ok hr rfl T.g_law_stranger.1 T.g_law_stranger.2 (F_law_stranger.up (by decide)).bn .nil (pass_own rfl rfl rfl rfl) (pa_cons (pv 2) (pa_cons (pv 8) pa_nil))))
      (pss_cons (ps_set (i := 10) sc_law.nd rfl (by first | exact Or.inl rfl | exact Or.inr rfl) (pe_call (F_law_stranger.up (by decide)).ok hr rfl T.g_law_stranger.1 T.g_law_stranger.2 (F_law_stranger.up (by decide)).bn .nil (pass_own rfl rfl rfl rfl) (pa_cons (pv 2) (pa_cons (pe_op op_addU (pv 8) (pe_lst (pa_cons (pv 9) pa_nil))) pa_nil))))
      (pss_cons (ps_for (passes_of rfl) rfl (pi_seq (pe_op op_addU (pe_lst (pa_cons (pv 9) (pa_cons (pv 10) pa_nil))) (pv 8))) (pg_name (i := 11) sc_law.nd rfl (by first | exact Or.inl rfl | exact Or.inr rfl)) (pss_one (ps_if (pt_cmpR (op_neP (by have := (hr).units; exact this)) (pe_call (F_law_told.up (by decide)).ok hr rfl T.g_law_told.1 T.g_law_told.2 (F_law_told.up (by decide)).bn .nil (pass_own rfl rfl rfl rfl) (pa_cons (pv 6) (pa_cons (pv 9) (pa_cons (pv 11) pa_nil)))) (pe_tup (pa_cons pe_str (pa_cons (pv 9) pa_nil))) (nomark _))
      (pss_one (ps_ret pe_bl))
      pss_nil)))
      (pss_one (ps_for (passes_of rfl) rfl (pi_seq (pv 8)) (pg_name (i := 12) sc_law.nd rfl (by first | exact Or.inl rfl | exact Or.inr rfl)) (pss_cons (ps_if (pt_cmpR (op_neP (by have := (hr).units; exact this)) (pe_call (F_law_told.up (by decide)).ok hr rfl T.g_law_told.1 T.g_law_told.2 (F_law_told.up (by decide)).bn .nil (pass_own rfl rfl rfl rfl) (pa_cons (pv 6) (pa_cons (pv 12) (pa_cons (pv 12) pa_nil)))) (pe_tup (pa_cons pe_str (pa_cons (pv 12) pa_nil))) (nomark _))
      (pss_one (ps_ret pe_bl))
      pss_nil)
      (pss_cons (ps_if (pt_cmpR (op_neP (by have := (hr).units; exact this)) (pe_call (F_law_told.up (by decide)).ok hr rfl T.g_law_told.1 T.g_law_told.2 (F_law_told.up (by decide)).bn .nil (pass_own rfl rfl rfl rfl) (pa_cons (pv 6) (pa_cons (pv 12) (pa_cons (pv 9) pa_nil)))) (pe_tup (pa_cons pe_str (pa_cons (pv 9) pa_nil))) (nomark _))
      (pss_one (ps_ret pe_bl))
      pss_nil)
      (pss_one (ps_for (passes_of rfl) rfl (pi_seq (pe_lc (te := (tVar 11)) (tt := (tTest (tOp (rEqP K true) (tVar 11) (tVar 12)))) (own := [("_law_other", 11)]) rfl sc_law.nd (pi_seq (pv 8)) (blk_ok ["_law_script", "_law_turn", "_law_pool_here", "_law_parts", "_law_start", "_law_ends_here", "_law_course_here", "_law_used_here", "_law_lanes_here", "_law_one", "_law_two", "_law_other", "_law_lane", "_law_kind", "_law_found", "_law_is_free", "_law_told_here"] (defScope s_law) rfl rfl (by decide +kernel)) (fun _ _ _ _ _ => (pg_name (i := 11) sc_law.nd rfl (by first | exact Or.inl rfl | exact Or.inr rfl))) (fun _ _ _ _ _ => (pts_one (pt_cmpR (op_neP (by have := (hr).units; exact this)) (pv 11) (pv 12) (nomark _)))) (fun _ _ _ _ _ => (pv 11)))) (pg_name (i := 11) sc_law.nd rfl (by first | exact Or.inl rfl | exact Or.inr rfl)) (pss_cons (ps_asg (pe_call (F_law_told.up (by decide)).ok hr rfl T.g_law_told.1 T.g_law_told.2 (F_law_told.up (by decide)).bn .nil (pass_own rfl rfl rfl rfl) (pa_cons (pv 6) (pa_cons (pv 12) (pa_cons (pv 11) pa_nil)))) (pg_tup rfl (pgs_cons (pg_name (i := 13) sc_law.nd rfl (by first | exact Or.inl rfl | exact Or.inr rfl)) (pgs_cons (pg_name (i := 14) sc_law.nd rfl (by first | exact Or.inl rfl | exact Or.inr rfl)) pgs_nil))))
      (pss_one (ps_if (pt_cmpR op_niU (pv 12) (pv 7) (by with_unfolding_all rfl))
      (pss_one (ps_if (pt_cmpR (op_neP (by have := (hr).units; exact this)) (pe_tup (pa_cons (pv 13) (pa_cons (pv 14) pa_nil))) (pe_tup (pa_cons pe_str (pa_cons (pv 12) pa_nil))) (nomark _))
      (pss_one (ps_ret pe_bl))
      pss_nil))
      (pss_cons (ps_set (i := 15) sc_law.nd rfl (by first | exact Or.inl rfl | exact Or.inr rfl) (pe_call (F_law_free.up (by decide)).ok hr rfl T.g_law_free.1 T.g_law_free.2 (F_law_free.up (by decide)).bn .nil (pass_own rfl rfl rfl rfl) (pa_cons (pv 3) (pa_cons (pv 4) (pa_cons (pv 5) (pa_cons (pv 12) (pa_cons (pv 11) pa_nil)))))))
      (pss_cons (ps_if (PW.pt (pw_or (pt_cmpR (op_neP (by have := (hr).units; exact this)) (pv 13) pe_str (nomark _)) (pw_or1 (pt_cmpR (op_neP (by have := (hr).units; exact this)) (pe_cmpR op_isN1 (pv 14) pe_non (nomark _)) (pv 15) (nomark _)))))
      (pss_one (ps_ret pe_bl))
      pss_nil)
      (pss_cons (ps_set (i := 16) sc_law.nd rfl (by first | exact Or.inl rfl | exact Or.inr rfl) (pe_tup (pa_cons (pv 12) (pa_cons (pv 11) (pa_cons (pv 14) pa_nil)))))
      (pss_cons (ps_if (PW.pt (pw_and (pt_cmpR op_notN1 (pv 14) pe_non (nomark _)) (pw_and1 (pt_not (pt_val (pe_call (F_law_right.up (by decide)).ok hr rfl T.g_law_right.1 T.g_law_right.2 (F_law_right.up (by decide)).bn .nil (pass_own rfl rfl rfl rfl) (pa_cons (pv 3) (pa_cons (pv 4) (pa_cons (pv 5) (pa_cons (pv 16) pa_nil))))))))))
      (pss_one (ps_ret pe_bl))
      pss_nil)
      (pss_one (ps_if (pt_cmpR (op_eqP (by have := (hr).units; exact this)) (pe_cmpR op_isN1 (pe_call (F_without.up (by decide)).ok hr rfl T.g_without.1 T.g_without.2 (F_without.up (by decide)).bn .nil (pass_own rfl rfl rfl rfl) (pa_cons (pv 6) (pa_cons (pv 12) (pa_cons (pe_tup (pa_cons (pv 11) pa_nil)) pa_nil)))) pe_non (nomark _)) (pv 15) (nomark _))
      (pss_one (ps_ret pe_bl))
      pss_nil)))))))))))))))))))))))))
      (pss_one (ps_ret pe_bl))), fun ws ka out B F0 Q hC hR hX => ?_⟩)
  obtain ⟨s0, rfl, zs, hs0, rfl, rfl⟩ := hC
  refine q_forn (ei_range1 (ea1 ev_int) (by decide) (by decide)) (fun i ro ka => ∃ (v1 v2 v3 v4 v5 v6 v7 v8 v9 v10 v11 v12 v13 v14 v15 v16 : Option W), ro = [some s0, v1, v2, v3, v4, v5, v6, v7, v8, v9, v10, v11, v12, v13, v14, v15, v16] ∧ ka = []) ⟨_, _, _, _, _, _, _, _, _, _, _, _, _, _, _, _, rfl, rfl⟩ (fun i ro ka _ => trivial) (fun i w ro2 ka2 ta' hw ⟨v1, v2, v3, v4, v5, v6, v7, v8, v9, v10, v11, v12, v13, v14, v15, v16, e1, e2⟩ => ?turn) (fun ro2 ka2 ta' ⟨_, _, _, _, _, _, _, _, _, _, _, _, _, _, _, _, e1, e2⟩ _ => ?fin)
  case fin =>
    subst e1 e2
    exact g_ret hR ev_bl ⟨rfl, rfl⟩
  subst e1 e2
  rw [List.getElem?_map] at hw
  obtain ⟨i', hi', rfl⟩ := Option.map_eq_some_iff.mp hw
  refine q_asgN (evn_callP (ea1 (ev_addI (ev_callP (ea2 (ev_var rfl) (ev_var rfl)) ⟨_, _, rfl, zs, i', hs0, rfl, rfl, rfl⟩) (ev_var rfl))) ⟨_, rfl, _, rfl, rfl, rfl⟩) (fun a => ?_)
  generalize zs.getD i' 0 + (i' : Int) = z
  refine q_call (kr := []) (k1 := [(a, .lst (plOf z).ds)]) (ea3 (ev_var rfl) ev_int ev_int) ⟨_, _, _, rfl, a, _, 0, 6, 9, rfl, rfl, rfl, rfl, plOf_ok _, by decide, by decide, by decide, by decide, by decide, by decide, rfl⟩ (fun o k ⟨ps, es, p', h, _⟩ => ⟨_, h⟩) ?_
  rintro _ _ ⟨ps, es, p1, e, rfl, hp1, hok, hne, hpl, hel⟩
  cases e
  have hpp := hok.st
  have hll := lnN_len es
  refine q_asgRT (evr_call (k1 := [(a, .lst p1.ds)]) [] (ea2 (ev_var rfl) (ev_var rfl)) ⟨_, _, rfl, a, p1, 300, ps, es, rfl, rfl, rfl, hp1.up (by decide), by decide, by decide, hne, by omega, rfl⟩ (fun o k ⟨st, gs, p', h, _⟩ => ⟨_, h⟩)) (fun w k1 hk => ?_)
  obtain ⟨d, k2, ⟨st, gs, p2, e1, rfl, hp2, hst, hg, hgl⟩, rfl, rfl⟩ := hk
  cases e1
  refine ⟨_, at_t2, ?_⟩
  refine q_asgR (EvR.fr (evr_course hok hst hg (by omega) (ev_var rfl) (ev_var rfl) (ev_var rfl)) [(a, .lst p2.ds)] fun w k ⟨_, _, _, _, e, _⟩ => ⟨_, e⟩) (fun w k hk => ?_)
  obtain ⟨k0, ⟨c, n, o, d, rfl, rfl⟩, rfl⟩ := hk
  refine Gp.frzT (CrsC K c n o d ps es st (goalP ps gs)) (kr := [(a, .lst p2.ds)]) List.perm_append_comm crs_kd (RoT.refl.set (i := 6) rfl (frz_crs fun _ h => h)) ?_
  have hgp := goalP_sub ps gs
  have hgpl := goalP_len ps gs
  have ck : CkOk ps es st (goalP ps gs) := ⟨hst, hgp, hpp, hok.ed, by omega, by omega, by omega⟩
  have hus := fun es' => usdB_goal (es := es') (st := st) hg
  have nmL : ∀ x ∈ lnN es, isNm x = true := fun x hx => by
    obtain ⟨r, hr, rfl⟩ := List.mem_map.mp hx
    exact hok.en r hr
  refine q_asg (ev_callP (ea3 (ev_var rfl) (ev_var rfl) (ev_var rfl)) ⟨_, _, _, rfl, ps, es, st, gs, rfl, rfl, rfl, hst, by omega, hpp, by omega, by omega, rfl, rfl⟩) ?_
  refine q_asg (ev_callP (ea1 (ev_var rfl)) ⟨_, rfl, ps, es, rfl, by omega, rfl, rfl⟩) ?_
  obtain ⟨nm1, new1, ok1⟩ := stg_ok (p := p2) (n := 310) (ns := lnN es) (hp2.up (by decide)) (by omega) nmL
  refine q_asg (ev_stranger (kr := []) (p := p2) (n := 310) (ev_var rfl) (ev_var rfl) (hp2.up (by decide)) (by decide) (by decide) (by omega) nmL) ?_
  generalize stgS p2 (lnN es) = one at *
  generalize stgP p2 (lnN es) = p3 at *
  have nm2 : ∀ x ∈ lnN es ++ [one], isNm x = true := fun x hx => by
    rcases List.mem_append.mp hx with h | h
    · exact nmL x h
    · rw [List.mem_singleton.mp h]; exact nm1
  refine q_asg (ev_stranger (kr := []) (p := p3) (n := 312) (ns := lnN es ++ [one]) (ev_var rfl) ((ev_catL (ds := stD (lnN es)) (es := [.str one]) (ev_var rfl) (evn_lst (ds := [.str one]) (ea1 (ev_var rfl)) (show 1 ≤ 100000 by decide)).lst (by rw [stD_len, List.length_singleton]; omega)).to (by rw [← stD_app]; rfl)) (ok1.up (by decide)) (by decide) (by decide) (by rw [List.length_append, List.length_singleton]; omega) nm2) ?_
  generalize stgS p3 (lnN es ++ [one]) = two
  refine Gp.less (k1 := []) ?_ (List.nil_sublist _)
  have tld : ∀ {ro : Ro} {E : XK} {te tf : TE} {x y : Str}, ro[6]? = some (some (.val (CrsD K ps es st (goalP ps gs)))) → EvD K te ro [] (.val (.str x)) [] → EvD K tf ro [] (.val (.str y)) [] → EvD K (tCall (spC K (ct_law_told K)) [] E (tCons (tVar 6) (tCons te (tCons tf tNil)))) ro [] (.val (gk ps es st (goalP ps gs) x y).d) [] := fun {ro E te tf x y} h0 h1 h2 => ev_callP (ea3 (ev_var h0) h1 h2) ⟨_, _, _, rfl, ps, es, st, goalP ps gs, x, y, rfl, rfl, rfl, ck, rfl, rfl⟩
  have pl2 : ∀ s x : Str, pl 61 (.tup [.str s, .str x]) = true := fun _ _ => rfl
  refine q_forn (ei_strs (ss := [one, two] ++ lnN es) ((ev_catL (ds := [.str one, .str two]) (es := stD (lnN es)) (evn_lst (ds := [.str one, .str two]) (ea2 (ev_var rfl) (ev_var rfl)) (show 2 ≤ 100000 by decide)).lst (ev_var rfl) (by rw [stD_len]; show 2 + _ ≤ _; omega)).to (by rw [← stD_app]; rfl))) (fun i ro ka => ∃ (v11 v12 v13 v14 v15 v16 : Option W), ro = [some s0, some (.val (.int (i' : Int))), some (.val (.adr a)), some (.val (PtD ps es)), some (.val (.str st)), some (.val (.lst (stD gs))), some (.val (CrsD K ps es st (goalP ps gs))), some (.val (.lst (stD (usedL es st gs)))), some (.val (.lst (stD (lnN es)))), some (.val (.str one)), some (.val (.str two)), v11, v12, v13, v14, v15, v16] ∧ ka = [])
    ⟨_, _, _, _, _, _, rfl, rfl⟩ (fun i ro ka _ => trivial) (fun j w ro2 ka2 ta2 hw ⟨v11, v12, v13, v14, v15, v16, e1, e2⟩ => ?strange) (fun ro2 ka2 ta2 ⟨v11, v12, v13, v14, v15, v16, e1, e2⟩ hta => ?rest)
  case strange =>
    subst e1 e2
    rw [List.getElem?_map] at hw
    obtain ⟨x, _, rfl⟩ := Option.map_eq_some_iff.mp hw
    exact g_if (b := false) ((et_test (ev_ne (d := .tup [.str "NoLane", .str one]) (e := .tup [.str "NoLane", .str one]) ((tld rfl (ev_var rfl) (ev_var rfl)).to (by rw [gk_no1 new1]; rfl)) (ev_tup (ds := [.str "NoLane", .str one]) (ea2 ev_str (ev_var rfl)) (show 2 ≤ 100000 by decide)) .v .v (pl2 _ _) (pl2 _ _))).to (by rw [eqD_refl 61 _ (pl2 _ _)]; rfl)) (fun z => by cases z) (fun _ => g_next (g_jp ⟨_, _, _, _, _, _, rfl, rfl⟩))
  subst e1 e2
  refine g_forn (ei_strs (ss := lnN es) (ev_var rfl)) (fun i ro ka => ∃ (v11 v12 v13 v14 v15 v16 : Option W), ro = [some s0, some (.val (.int (i' : Int))), some (.val (.adr a)), some (.val (PtD ps es)), some (.val (.str st)), some (.val (.lst (stD gs))), some (.val (CrsD K ps es st (goalP ps gs))), some (.val (.lst (stD (usedL es st gs)))), some (.val (.lst (stD (lnN es)))), some (.val (.str one)), some (.val (.str two)), v11, v12, v13, v14, v15, v16] ∧ ka = [])
    ⟨_, _, _, _, _, _, rfl, rfl⟩ (fun i ro ka _ => trivial) (fun j w ro2 ka2 ta3 hw ⟨v11, v12, v13, v14, v15, v16, e1, e2⟩ => ?lane) (fun ro2 ka2 ta3 ⟨v11, v12, v13, v14, v15, v16, e1, e2⟩ hta3 => ?endl)
  case endl =>
    subst e1 e2
    exact g_jpH (fun p hp => hta3 p (hta p hp)) ⟨_, _, _, _, _, _, _, _, _, _, _, _, _, _, _, _, rfl, rfl⟩
  subst e1 e2
  rw [List.getElem?_map] at hw
  obtain ⟨l, hlj, rfl⟩ := Option.map_eq_some_iff.mp hw
  have hl := List.mem_of_getElem? hlj
  refine q_when (b := false) ((et_test (ev_ne (d := .tup [.str "SameLane", .str l]) (e := .tup [.str "SameLane", .str l]) ((tld rfl (ev_var rfl) (ev_var rfl)).to (by rw [gk_in hl hl, if_pos rfl]; rfl)) (ev_tup (ds := [.str "SameLane", .str l]) (ea2 ev_str (ev_var rfl)) (show 2 ≤ 100000 by decide)) .v .v (pl2 _ _) (pl2 _ _))).to (by rw [eqD_refl 61 _ (pl2 _ _)]; rfl)) (fun z => by cases z) (fun _ => ?_)
  refine q_when (b := false) ((et_test (ev_ne (d := .tup [.str "NoLane", .str one]) (e := .tup [.str "NoLane", .str one]) ((tld rfl (ev_var rfl) (ev_var rfl)).to (by rw [gk_no2 hl new1]; rfl)) (ev_tup (ds := [.str "NoLane", .str one]) (ea2 ev_str (ev_var rfl)) (show 2 ≤ 100000 by decide)) .v .v (pl2 _ _) (pl2 _ _))).to (by rw [eqD_refl 61 _ (pl2 _ _)]; rfl)) (fun z => by cases z) (fun _ => ?_)
  refine g_forn (ei_strs (ss := (lnN es).filter fun x => !(x == l)) (evn_filt (xs := lnN es) (g := fun s => W.val (.str s)) (f := fun s => D.str s) (p := fun x => !(x == l)) (ei_strs (ev_var rfl)) (by decide) (by omega) ⟨trivial, fun _ => trivial⟩ (fun x hx => et_test (ev_neS (ev_var rfl) (ev_var rfl))) (fun x hx _ => ev_var rfl)).lst) (fun i ro ka => ∃ (v11 v13 v14 v15 v16 : Option W), ro = [some s0, some (.val (.int (i' : Int))), some (.val (.adr a)), some (.val (PtD ps es)), some (.val (.str st)), some (.val (.lst (stD gs))), some (.val (CrsD K ps es st (goalP ps gs))), some (.val (.lst (stD (usedL es st gs)))), some (.val (.lst (stD (lnN es)))), some (.val (.str one)), some (.val (.str two)), v11, some (.val (.str l)), v13, v14, v15, v16] ∧ ka = [])
    ⟨_, _, _, _, _, rfl, rfl⟩ (fun i ro ka _ => trivial) (fun q w ro2 ka2 ta4 hw ⟨v11, v13, v14, v15, v16, e1, e2⟩ => ?other) (fun ro2 ka2 ta4 ⟨v11, v13, v14, v15, v16, e1, e2⟩ hta4 => ?endo)
  case endo =>
    subst e1 e2
    exact g_jpH hta4 ⟨_, _, _, _, _, _, rfl, rfl⟩
  subst e1 e2
  rw [List.getElem?_map] at hw
  obtain ⟨x, hxq, rfl⟩ := Option.map_eq_some_iff.mp hw
  obtain ⟨hx, hxl⟩ := List.mem_filter.mp (List.mem_of_getElem? hxq)
  have hlx : l ≠ x := fun z => by
    rw [z] at hxl
    simp at hxl
  have egk := gk_in (ps := ps) (st := st) (gs := goalP ps gs) hl hx
  rw [if_neg hlx] at egk
  by_cases hu : l ∈ usedL es st gs
  rotate_left
  · rw [if_neg (by rw [hus]; exact hu)] at egk
    refine q_asgT (w := .val (.tup [.str "NoRun", .str l])) ((tld rfl (ev_var rfl) (ev_var rfl)).to (by rw [egk]; rfl)) at_t2 ?_
    refine g_if (b := true) ((et_test (ev_niL (tt := false) (b := false) (ss := usedL es st gs) (ev_var rfl) (ev_var rfl) .vl)).to (by rw [decide_eq_false hu]; rfl)) (fun _ => ?_) (fun z => by cases z)
    exact g_if (b := false) ((et_test (ev_ne (d := .tup [.str "NoRun", .str l]) (e := .tup [.str "NoRun", .str l]) (ev_tup (ds := [.str "NoRun", .str l]) (ea2 (ev_var rfl) (ev_var rfl)) (show 2 ≤ 100000 by decide)) (ev_tup (ds := [.str "NoRun", .str l]) (ea2 ev_str (ev_var rfl)) (show 2 ≤ 100000 by decide)) .v .v (pl2 _ _) (pl2 _ _))).to (by rw [eqD_refl 61 _ (pl2 _ _)]; rfl)) (fun z => by cases z) (fun _ => g_next (g_jp ⟨_, _, _, _, _, rfl, rfl⟩))
  have hu2 : l ∈ usedL es st (goalP ps gs) := by rw [hus]; exact hu
  rw [if_pos hu2] at egk
  obtain ⟨r, hr, rfl⟩ := List.mem_map.mp hl
  have hgc := gate_cases (ps := ps) (gs := goalP ps gs) hok.ed hpp hst hr hu2 hlx
  rw [hus] at hgc
  refine q_asgT (w := .val (.tup [.str "told", gateD ps es st (goalP ps gs) r.1 x])) ((tld rfl (ev_var rfl) (ev_var rfl)).to (by rw [egk]; rfl)) at_t2 ?_
  generalize gateD ps es st (goalP ps gs) r.1 x = gd at *
  refine g_if (b := false) ((et_test (ev_niL (tt := false) (b := false) (ss := usedL es st gs) (ev_var rfl) (ev_var rfl) .vl)).to (by rw [decide_eq_true hu]; rfl)) (fun z => by cases z) (fun _ => ?_)
  refine q_asg (ev_callP (d := .bl (decide (r.1 ∈ usedL (cutE es [x]) st gs))) (ea_cons (ev_var rfl) (ea_cons (ev_var rfl) (ea3 (ev_var rfl) (ev_var rfl) (ev_var rfl)))) ⟨_, _, _, _, _, rfl, ps, es, st, gs, r.1, x, rfl, rfl, rfl, rfl, rfl, hst, hpp, hok.ed, by omega, by omega, by omega, hl, hlx, rfl, rfl⟩) ?_
  have hfree : isNonD gd = decide (r.1 ∈ usedL (cutE es [x]) st gs) := by
    rcases hgc with ⟨h1, h2⟩ | ⟨h1, s, S, h2, _⟩
    · rw [h2, decide_eq_true h1]; rfl
    · rw [h2, decide_eq_false h1]; rfl
  refine q_when (et_or0 ((et_test (ev_neS (ev_var rfl) ev_str)).to (b := false) rfl) ((et_test (ev_ne (d := .bl (isNonD gd)) (e := .bl (decide (r.1 ∈ usedL (cutE es [x]) st gs))) (ev_isN (d := gd) (ev_var rfl) (.inl rfl)) (ev_var rfl) .v .v rfl rfl)).to (b := false) (by rw [hfree]; cases decide (r.1 ∈ usedL (cutE es [x]) st gs) <;> rfl))) (fun z => by cases z) (fun _ => ?_)
  refine q_asg (w := .val (.tup [.str r.1, .str x, gd])) (ev_tup (ds := [.str r.1, .str x, gd]) (ea3 (ev_var rfl) (ev_var rfl) (ev_var rfl)) (show 3 ≤ 100000 by decide)) ?_
  have rt : EvT K (tAnd (tTest (tOp rNotN (tVar 14) (tC .non))) (tNot (tB (tCall (spC K (ct_law_right K)) [] E (tCons (tVar 3) (tCons (tVar 4) (tCons (tVar 5) (tCons (tVar 16) tNil)))))))) [some s0, some (.val (.int (i' : Int))), some (.val (.adr a)), some (.val (PtD ps es)), some (.val (.str st)), some (.val (.lst (stD gs))), some (.val (CrsD K ps es st (goalP ps gs))), some (.val (.lst (stD (usedL es st gs)))), some (.val (.lst (stD (lnN es)))), some (.val (.str one)), some (.val (.str two)), some (.val (.str x)), some (.val (.str r.1)), some (.val (.str "told")), some (.val gd), some (.val (.bl (decide (r.1 ∈ usedL (cutE es [x]) st gs)))), some (.val (.tup [.str r.1, .str x, gd]))] [] false [] := by
    rcases hgc with ⟨h1, h2⟩ | ⟨h1, s, S, h2, h3, h4, h5, h6⟩
    · subst h2
      exact et_and0 ((et_test (ev_notN (d := .non) (ev_var rfl) (.inl rfl))).to (b := false) rfl)
    · subst h2
      have h7 : (s = "before" ∧ st ∈ S ∧ r.2.1 ∉ S) ∨ (s = "behind" ∧ r.2.2 ∈ S ∧ (gs.filter fun p => decide (p ∈ S)) = []) := by
        rcases h6 with h | ⟨a1, a2, a3⟩
        · exact .inl h
        · refine .inr ⟨a1, a2, List.filter_eq_nil_iff.mpr fun p hp => List.filter_eq_nil_iff.mp a3 p ((goal_mem hg).mpr hp)⟩
      exact et_and1 ((et_test (ev_notN (d := .tup [.str s, .tup (stD S)]) (ev_var rfl) (.inl rfl))).to (b := true) rfl) ((et_not (et_B (ev_callP (d := .bl true) (ea_cons (ev_var rfl) (ea3 (ev_var rfl) (ev_var rfl) (ev_var rfl))) ⟨_, _, _, _, rfl, ps, es, st, gs, r, x, s, S, rfl, rfl, rfl, rfl, hr, hok.ed, by omega, by omega, by omega, h3, h5, h7, rfl, rfl⟩))).to rfl)
  refine q_when rt (fun z => by cases z) (fun _ => ?_)
  have nmx := nmL x hx
  have iff1 : r.1 ∈ usedL (cutE es [x]) st gs ↔ ∃ ls, GoodRun es st (goalP ps gs) [r.1] (mcT (wdT x []) 0) ls := by
    rw [used_run]
    constructor
    · rintro ⟨ls, h1, h2⟩
      obtain ⟨⟨q, hq, hw⟩, h3⟩ := run_cut.mp h1
      exact ⟨ls, one_good.mpr ⟨⟨q, (goal_mem hg).mpr hq, hw⟩, h2, h3⟩⟩
    · rintro ⟨ls, h⟩
      obtain ⟨⟨q, hq, hw⟩, h2, h3⟩ := one_good.mp h
      exact ⟨ls, run_cut.mpr ⟨⟨q, (goal_mem hg).mp hq, hw⟩, h3⟩, h2⟩
  refine g_if (b := false) ((et_test (ev_eqB (ev_isNR (bb := !decide (r.1 ∈ usedL (cutE es [x]) st gs)) (k1 := []) (evr_call (k1 := []) [] (ea3 (ev_var rfl) (ev_var rfl) (ev_tup (ds := [.str x]) (ea1 (ev_var rfl)) (show 1 ≤ 100000 by decide))) (out := ShO es st (goalP ps gs) [r.1] (mcT (wdT x []) 0)) ⟨_, _, _, rfl, ps, es, st, goalP ps gs, r.1, rfl, rfl, ck, .inl ⟨true, [.str x], .vt, (show 1 ≤ 8 by decide), fun d hd => by rw [List.mem_singleton.mp hd]; exact (nm_ok1 nmx).1, by rw [ap_one nmx, cu_one hu2]⟩, rfl⟩ (fun o k h => by rcases h with ⟨_, _, e, _⟩ | ⟨e, _⟩ <;> exact ⟨_, e⟩)) fun w k hk => ?_) (ev_var rfl))).to (by cases decide (r.1 ∈ usedL (cutE es [x]) st gs) <;> rfl)) (fun z => by cases z) (fun _ => g_next (g_jp ⟨_, _, _, _, _, rfl, rfl⟩))
  obtain ⟨d, k3, h, rfl, rfl⟩ := hk
  refine ⟨⟨d, rfl, ?_⟩, List.nil_sublist _⟩
  rcases h with ⟨ls, c2, e, _, sh⟩ | ⟨e, _, sh⟩
  · cases e
    rw [decide_eq_true (iff1.mpr ⟨ls, sh.1⟩)]
    rfl
  · cases e
    rw [decide_eq_false fun z => by
      obtain ⟨ls, h⟩ := iff1.mp z
      exact sh ls h]
    rfl
end
def exs0 : List Fx := [fStr "LETTERS" "abcdefghijklmnopqrstuvwxyz", fFree "len", fInt "LONGEST" 8, fFree "isinstance", fFree "str", fFree "all", fStr "DIGITS" "0123456789", fX0 "EmptyWalk", fGlo "EmptyWalk", fGlo "is_name", fGlo "BadName", fGlo "read_tree", fGlo "crossed", fMkr "Machine", fGlo "Machine", fMkr "Pattern", fGlo "Pattern", fGlo "check_lanes", fGlo "word_pattern", fGlo "made_machine", fGlo "as_pattern", fFree "any", fFree "tuple", fCls "Machine", fMeth "Machine" "is_behind", fMeth "Machine" "takes", fFree "range", fFree "list", fT0 ("Net", some "__init__") 0, fGlo "NameTaken"]
def exs1 : List Fx := [fGlo "NoPost", fGlo "NoLane", fMkr "Net", fGlo "Net", fGlo "first_missing", fCls "Net", fMeth "Net" "post", fMeth "Net" "lane", fGlo "reached_posts", fSm "Net" "__neg__", fProp "Net" "posts", fMeth "Net" "copy", fGlo "posts_before", fMeth "Net" "end_of", fMeth "Net" "start_of", fProp "Net" "lanes", fGlo "check_known", fGlo "lanes_of", fGlo "NoRun", fMeth "Net" "out_of", fMeth "Machine" "begun", fMeth "Machine" "is_done", fGlo "machine_of", fGlo "check_used", fGlo "shortest_run", fGlo "SameLane", fBo "Net" .Sub, fFree "int", fGlo "_law_take", fGlo "_law_many"]
def exs2 : List Fx := [fGlo "_law_mixed", fGlo "_law_ways", fXc "NoRun", fNoat "NoRun" "name", fXc "SameLane", fNoat "SameLane" "name", fXc "NoLane", fNoat "NoLane" "name", fGlo "gate", fGlo "_law_ends", fGlo "_law_pool", fGlo "_law_cell", fGlo "_law_line_net", fGlo "_law_course", fMkr "Course", fGlo "Course", fGlo "_law_built", fGlo "_law_used", fGlo "_law_lanes", fGlo "_law_stranger", fGlo "_law_told", fGlo "_law_free", fGlo "_law_right", fGlo "without", fXc "BadName", fXi "BadName", fNoat "BadName" "name", fXc "NameTaken", fXi "NameTaken", fNoat "NameTaken" "name"]
def exs3 : List Fx := [fXc "NoPost", fXi "NoPost", fNoat "NoPost" "name", fXi "NoLane", fXi "NoRun", fXi "SameLane", fGlo "law", fKit "NoneType" "str" false, fKit "bool" "str" false, fKit "int" "str" false, fKit "list" "str" false, fKit "tuple" "str" false, fKit "str" "str" true, fNoat "Machine" "atoms", fNoat "Machine" "firsts", fNoat "Machine" "lasts", fNoat "Machine" "pairs", fNoat "Machine" "is_optional", fNoP, fCls "Pattern", fNoat "Pattern" "tree", fClsI "Pattern", fKitO "Pattern" "Pattern" true, fKitC "list" "Pattern" false, fKitC "tuple" "Pattern" false, fNoat "Net" "order", fNoat "Net" "ends_by_lane", fCls "Course", fNoat "Course" "base", fNoat "Course" "start"]
def exs4 : List Fx := [fNoat "Course" "ends", fBoT "Net" .Sub "tuple", fExm "NoLane" "NoLane" true, fExm "SameLane" "NoLane" false, fExm "SameLane" "SameLane" true, fExm "NoRun" "NoLane" false, fExm "NoRun" "SameLane" false, fExm "NoRun" "NoRun" true, fKit "tuple" "tuple" true]
abbrev exs : List Fx := exs0 ++ exs1 ++ exs2 ++ exs3 ++ exs4
def dfs0 : List Df := [⟨fun K => (He.ga K "is_name"), "is_name", "is_name", defArgs s_is_name, defBody s_is_name, defScope s_is_name, fun K => []⟩, ⟨fun K => (He.ga K "first_missing"), "first_missing", "first_missing", defArgs s_first_missing, defBody s_first_missing, defScope s_first_missing, fun K => []⟩, ⟨fun K => (He.ga K "check_lanes"), "check_lanes", "check_lanes", defArgs s_check_lanes, defBody s_check_lanes, defScope s_check_lanes, fun K => []⟩, ⟨fun K => (He.ga K "crossed"), "crossed", "crossed", defArgs s_crossed, defBody s_crossed, defScope s_crossed, fun K => []⟩, ⟨fun K => (He.ga K "read_tree"), "read_tree", "read_tree", defArgs s_read_tree, defBody s_read_tree, defScope s_read_tree, fun K => []⟩, ⟨fun K => (He.ma K (He.ga K "Machine") "__init__"), "__init__", "Machine.__init__", defArgs s_Machine___init, defBody s_Machine___init, defScope s_Machine___init, fun K => []⟩, ⟨fun K => (He.ga K "made_machine"), "made_machine", "made_machine", defArgs s_made_machine, defBody s_made_machine, defScope s_made_machine, fun K => []⟩, ⟨fun K => (He.ma K (He.ga K "Pattern") "__init__"), "__init__", "Pattern.__init__", defArgs s_Pattern___init, defBody s_Pattern___init, defScope s_Pattern___init, fun K => []⟩, ⟨fun K => (He.ga K "word_pattern"), "word_pattern", "word_pattern", defArgs s_word_pattern, defBody s_word_pattern, defScope s_word_pattern, fun K => []⟩, ⟨fun K => (He.ga K "as_pattern"), "as_pattern", "as_pattern", defArgs s_as_pattern, defBody s_as_pattern, defScope s_as_pattern, fun K => []⟩, ⟨fun K => (He.ga K "machine_of"), "machine_of", "machine_of", defArgs s_machine_of, defBody s_machine_of, defScope s_machine_of, fun K => []⟩, ⟨fun K => (He.ma K (He.ga K "Machine") "takes"), "takes", "Machine.takes", defArgs s_Machine_takes, defBody s_Machine_takes, defScope s_Machine_takes, fun K => []⟩, ⟨fun K => (He.ma K (He.ga K "Machine") "is_behind"), "is_behind", "Machine.is_behind", defArgs s_Machine_is_behind, defBody s_Machine_is_behind, defScope s_Machine_is_behind, fun K => []⟩, ⟨fun K => (He.ma K (He.ga K "Machine") "after"), "after", "Machine.after", defArgs s_Machine_after, defBody s_Machine_after, defScope s_Machine_after, fun K => []⟩, ⟨fun K => (He.ma K (He.ga K "Machine") "begun"), "begun", "Machine.begun", defArgs s_Machine_begun, defBody s_Machine_begun, defScope s_Machine_begun, fun K => []⟩, ⟨fun K => (He.ma K (He.ga K "Machine") "is_done"), "is_done", "Machine.is_done", defArgs s_Machine_is_done, defBody s_Machine_is_done, defScope s_Machine_is_done, fun K => []⟩, ⟨fun K => (He.ma K (He.ga K "Net") "__init__"), "__init__", "Net.__init__", defArgs s_Net___init, defBody s_Net___init, defScope s_Net___init, fun K => [.ref (He.dflAt ("Net", some "__init__") 0 K), .non]⟩, ⟨fun K => (pga K (He.ga K "Net") "posts"), "posts", "Net.posts", defArgs s_Net_posts, defBody s_Net_posts, defScope s_Net_posts, fun K => []⟩, ⟨fun K => (pga K (He.ga K "Net") "lanes"), "lanes", "Net.lanes", defArgs s_Net_lanes, defBody s_Net_lanes, defScope s_Net_lanes, fun K => []⟩, ⟨fun K => (He.ma K (He.ga K "Net") "post"), "post", "Net.post", defArgs s_Net_post, defBody s_Net_post, defScope s_Net_post, fun K => []⟩, ⟨fun K => (He.ma K (He.ga K "Net") "lane"), "lane", "Net.lane", defArgs s_Net_lane, defBody s_Net_lane, defScope s_Net_lane, fun K => []⟩, ⟨fun K => (He.ma K (He.ga K "Net") "start_of"), "start_of", "Net.start_of", defArgs s_Net_start_of, defBody s_Net_start_of, defScope s_Net_start_of, fun K => []⟩, ⟨fun K => (He.ma K (He.ga K "Net") "end_of"), "end_of", "Net.end_of", defArgs s_Net_end_of, defBody s_Net_end_of, defScope s_Net_end_of, fun K => []⟩, ⟨fun K => (He.ma K (He.ga K "Net") "out_of"), "out_of", "Net.out_of", defArgs s_Net_out_of, defBody s_Net_out_of, defScope s_Net_out_of, fun K => []⟩, ⟨fun K => (He.ma K (He.ga K "Net") "copy"), "copy", "Net.copy", defArgs s_Net_copy, defBody s_Net_copy, defScope s_Net_copy, fun K => []⟩, ⟨fun K => (He.ma K (He.ga K "Net") "__neg__"), "__neg__", "Net.__neg__", defArgs s_Net___neg, defBody s_Net___neg, defScope s_Net___neg, fun K => []⟩, ⟨fun K => (He.ma K (He.ga K "Net") "__sub__"), "__sub__", "Net.__sub__", defArgs s_Net___sub, defBody s_Net___sub, defScope s_Net___sub, fun K => []⟩, ⟨fun K => (He.ga K "_law_built"), "_law_built", "_law_built", defArgs s_law_built, defBody s_law_built, defScope s_law_built, fun K => []⟩, ⟨fun K => (He.ga K "_law_ends"), "_law_ends", "_law_ends", defArgs s_law_ends, defBody s_law_ends, defScope s_law_ends, fun K => []⟩, ⟨fun K => (He.ga K "_law_ways"), "_law_ways", "_law_ways", defArgs s_law_ways, defBody s_law_ways, defScope s_law_ways, fun K => []⟩]
def dfs1 : List Df := [⟨fun K => (He.ga K "reached_posts"), "reached_posts", "reached_posts", defArgs s_reached_posts, defBody s_reached_posts, defScope s_reached_posts, fun K => []⟩, ⟨fun K => (He.ga K "posts_before"), "posts_before", "posts_before", defArgs s_posts_before, defBody s_posts_before, defScope s_posts_before, fun K => []⟩, ⟨fun K => (He.ma K (He.ga K "Course") "__init__"), "__init__", "Course.__init__", defArgs s_Course___init, defBody s_Course___init, defScope s_Course___init, fun K => []⟩, ⟨fun K => (He.ga K "lanes_of"), "lanes_of", "lanes_of", defArgs s_lanes_of, defBody s_lanes_of, defScope s_lanes_of, fun K => []⟩, ⟨fun K => (He.ga K "check_known"), "check_known", "check_known", defArgs s_check_known, defBody s_check_known, defScope s_check_known, fun K => []⟩, ⟨fun K => (He.ga K "check_used"), "check_used", "check_used", defArgs s_check_used, defBody s_check_used, defScope s_check_used, fun K => []⟩, ⟨fun K => (He.ga K "shortest_run"), "shortest_run", "shortest_run", defArgs s_shortest_run, defBody s_shortest_run, defScope s_shortest_run, fun K => []⟩, ⟨fun K => (He.ga K "without"), "without", "without", defArgs s_without, defBody s_without, defScope s_without, fun K => []⟩, ⟨fun K => (He.ga K "gate"), "gate", "gate", defArgs s_gate, defBody s_gate, defScope s_gate, fun K => []⟩, ⟨fun K => (He.ga K "_law_cell"), "_law_cell", "_law_cell", defArgs s_law_cell, defBody s_law_cell, defScope s_law_cell, fun K => []⟩, ⟨fun K => (He.ga K "_law_pool"), "_law_pool", "_law_pool", defArgs s_law_pool, defBody s_law_pool, defScope s_law_pool, fun K => []⟩, ⟨fun K => (He.ga K "_law_take"), "_law_take", "_law_take", defArgs s_law_take, defBody s_law_take, defScope s_law_take, fun K => []⟩, ⟨fun K => (He.ga K "_law_many"), "_law_many", "_law_many", defArgs s_law_many, defBody s_law_many, defScope s_law_many, fun K => []⟩, ⟨fun K => (He.ga K "_law_mixed"), "_law_mixed", "_law_mixed", defArgs s_law_mixed, defBody s_law_mixed, defScope s_law_mixed, fun K => []⟩, ⟨fun K => (He.ga K "_law_line_net"), "_law_line_net", "_law_line_net", defArgs s_law_line_net, defBody s_law_line_net, defScope s_law_line_net, fun K => []⟩, ⟨fun K => (He.ga K "_law_course"), "_law_course", "_law_course", defArgs s_law_course, defBody s_law_course, defScope s_law_course, fun K => []⟩, ⟨fun K => (He.ga K "_law_lanes"), "_law_lanes", "_law_lanes", defArgs s_law_lanes, defBody s_law_lanes, defScope s_law_lanes, fun K => []⟩, ⟨fun K => (He.ga K "_law_stranger"), "_law_stranger", "_law_stranger", defArgs s_law_stranger, defBody s_law_stranger, defScope s_law_stranger, fun K => []⟩, ⟨fun K => (He.ga K "_law_used"), "_law_used", "_law_used", defArgs s_law_used, defBody s_law_used, defScope s_law_used, fun K => []⟩, ⟨fun K => (He.ga K "_law_told"), "_law_told", "_law_told", defArgs s_law_told, defBody s_law_told, defScope s_law_told, fun K => []⟩, ⟨fun K => (He.ga K "_law_free"), "_law_free", "_law_free", defArgs s_law_free, defBody s_law_free, defScope s_law_free, fun K => []⟩, ⟨fun K => (He.ga K "_law_right"), "_law_right", "_law_right", defArgs s_law_right, defBody s_law_right, defScope s_law_right, fun K => []⟩, ⟨fun K => (He.ga K "law"), "law", "law", defArgs s_law, defBody s_law, defScope s_law, fun K => []⟩, ⟨fun K => (He.ma K (He.ga K "BadName") "__init__"), "__init__", "BadName.__init__", defArgs s_BadName___init, defBody s_BadName___init, defScope s_BadName___init, fun K => []⟩, ⟨fun K => (He.ma K (He.ga K "NameTaken") "__init__"), "__init__", "NameTaken.__init__", defArgs s_NameTaken___init, defBody s_NameTaken___init, defScope s_NameTaken___init, fun K => []⟩, ⟨fun K => (He.ma K (He.ga K "NoPost") "__init__"), "__init__", "NoPost.__init__", defArgs s_NoPost___init, defBody s_NoPost___init, defScope s_NoPost___init, fun K => []⟩, ⟨fun K => (He.ma K (He.ga K "NoLane") "__init__"), "__init__", "NoLane.__init__", defArgs s_NoLane___init, defBody s_NoLane___init, defScope s_NoLane___init, fun K => []⟩, ⟨fun K => (He.ma K (He.ga K "NoRun") "__init__"), "__init__", "NoRun.__init__", defArgs s_NoRun___init, defBody s_NoRun___init, defScope s_NoRun___init, fun K => []⟩, ⟨fun K => (He.ma K (He.ga K "SameLane") "__init__"), "__init__", "SameLane.__init__", defArgs s_SameLane___init, defBody s_SameLane___init, defScope s_SameLane___init, fun K => []⟩]
abbrev dfs : List Df := dfs0 ++ dfs1
theorem tx_of {K : PySem.W.Frag} {mg : Str → Option Value} {h : Heap} (X : K.In h) (G : h.Ns mainGlobals mg) (c : SaysY exs dfs K) : Tx K mg where
  v_LETTERS := (let ⟨t, e⟩ := He.str_ok X G (c.fact 0 (f := fStr "LETTERS" "abcdefghijklmnopqrstuvwxyz")); ⟨_, e, t, rfl⟩)
  n_len := He.free_ok X G (c.fact 1 (f := fFree "len"))
  v_LONGEST := (let ⟨t, e⟩ := He.int_ok X G (c.fact 2 (f := fInt "LONGEST" 8)); ⟨_, e, t, rfl⟩)
  n_isinstance := He.free_ok X G (c.fact 3 (f := fFree "isinstance"))
  n_str := He.free_ok X G (c.fact 4 (f := fFree "str"))
  n_all := He.free_ok X G (c.fact 5 (f := fFree "all"))
  v_DIGITS := (let ⟨t, e⟩ := He.str_ok X G (c.fact 6 (f := fStr "DIGITS" "0123456789")); ⟨_, e, t, rfl⟩)
  x0_EmptyWalk := He.exc_ok (c.fact 7 (f := fX0 "EmptyWalk"))
  g_EmptyWalk := ⟨He.glo_ok X G (He.ba (c.fact 8 (f := fGlo "EmptyWalk"))).1, (He.ba (c.fact 8 (f := fGlo "EmptyWalk"))).2⟩
  g_is_name := ⟨He.glo_ok X G (He.ba (c.fact 9 (f := fGlo "is_name"))).1, (He.ba (c.fact 9 (f := fGlo "is_name"))).2⟩
  g_BadName := ⟨He.glo_ok X G (He.ba (c.fact 10 (f := fGlo "BadName"))).1, (He.ba (c.fact 10 (f := fGlo "BadName"))).2⟩
  g_read_tree := ⟨He.glo_ok X G (He.ba (c.fact 11 (f := fGlo "read_tree"))).1, (He.ba (c.fact 11 (f := fGlo "read_tree"))).2⟩
  g_crossed := ⟨He.glo_ok X G (He.ba (c.fact 12 (f := fGlo "crossed"))).1, (He.ba (c.fact 12 (f := fGlo "crossed"))).2⟩
  mk_Machine := He.mkr_ok (c.fact 13 (f := fMkr "Machine"))
  g_Machine := ⟨He.glo_ok X G (He.ba (c.fact 14 (f := fGlo "Machine"))).1, (He.ba (c.fact 14 (f := fGlo "Machine"))).2⟩
  mk_Pattern := He.mkr_ok (c.fact 15 (f := fMkr "Pattern"))
  g_Pattern := ⟨He.glo_ok X G (He.ba (c.fact 16 (f := fGlo "Pattern"))).1, (He.ba (c.fact 16 (f := fGlo "Pattern"))).2⟩
  g_check_lanes := ⟨He.glo_ok X G (He.ba (c.fact 17 (f := fGlo "check_lanes"))).1, (He.ba (c.fact 17 (f := fGlo "check_lanes"))).2⟩
  g_word_pattern := ⟨He.glo_ok X G (He.ba (c.fact 18 (f := fGlo "word_pattern"))).1, (He.ba (c.fact 18 (f := fGlo "word_pattern"))).2⟩
  g_made_machine := ⟨He.glo_ok X G (He.ba (c.fact 19 (f := fGlo "made_machine"))).1, (He.ba (c.fact 19 (f := fGlo "made_machine"))).2⟩
  g_as_pattern := ⟨He.glo_ok X G (He.ba (c.fact 20 (f := fGlo "as_pattern"))).1, (He.ba (c.fact 20 (f := fGlo "as_pattern"))).2⟩
  n_any := He.free_ok X G (c.fact 21 (f := fFree "any"))
  n_tuple := He.free_ok X G (c.fact 22 (f := fFree "tuple"))
  cl_Machine := He.cls_ok (c.fact 23 (f := fCls "Machine"))
  me_Machine_is_behind := He.meth_ok (c.fact 24 (f := fMeth "Machine" "is_behind"))
  me_Machine_takes := He.meth_ok (c.fact 25 (f := fMeth "Machine" "takes"))
  n_range := He.free_ok X G (c.fact 26 (f := fFree "range"))
  n_list := He.free_ok X G (c.fact 27 (f := fFree "list"))
  t0_Net___init := t0_ok (c.fact 28 (f := fT0 ("Net", some "__init__") 0))
  g_NameTaken := ⟨He.glo_ok X G (He.ba (c.fact 29 (f := fGlo "NameTaken"))).1, (He.ba (c.fact 29 (f := fGlo "NameTaken"))).2⟩
  g_NoPost := ⟨He.glo_ok X G (He.ba (c.fact 30 (f := fGlo "NoPost"))).1, (He.ba (c.fact 30 (f := fGlo "NoPost"))).2⟩
  g_NoLane := ⟨He.glo_ok X G (He.ba (c.fact 31 (f := fGlo "NoLane"))).1, (He.ba (c.fact 31 (f := fGlo "NoLane"))).2⟩
  mk_Net := He.mkr_ok (c.fact 32 (f := fMkr "Net"))
  g_Net := ⟨He.glo_ok X G (He.ba (c.fact 33 (f := fGlo "Net"))).1, (He.ba (c.fact 33 (f := fGlo "Net"))).2⟩
  g_first_missing := ⟨He.glo_ok X G (He.ba (c.fact 34 (f := fGlo "first_missing"))).1, (He.ba (c.fact 34 (f := fGlo "first_missing"))).2⟩
  cl_Net := He.cls_ok (c.fact 35 (f := fCls "Net"))
  me_Net_post := He.meth_ok (c.fact 36 (f := fMeth "Net" "post"))
  me_Net_lane := He.meth_ok (c.fact 37 (f := fMeth "Net" "lane"))
  g_reached_posts := ⟨He.glo_ok X G (He.ba (c.fact 38 (f := fGlo "reached_posts"))).1, (He.ba (c.fact 38 (f := fGlo "reached_posts"))).2⟩
  sm_Net_neg := sm_ok (c.fact 39 (f := fSm "Net" "__neg__"))
  pr_Net_posts := prop_ok (c.fact 40 (f := fProp "Net" "posts"))
  me_Net_copy := He.meth_ok (c.fact 41 (f := fMeth "Net" "copy"))
  g_posts_before := ⟨He.glo_ok X G (He.ba (c.fact 42 (f := fGlo "posts_before"))).1, (He.ba (c.fact 42 (f := fGlo "posts_before"))).2⟩
  me_Net_end_of := He.meth_ok (c.fact 43 (f := fMeth "Net" "end_of"))
  me_Net_start_of := He.meth_ok (c.fact 44 (f := fMeth "Net" "start_of"))
  pr_Net_lanes := prop_ok (c.fact 45 (f := fProp "Net" "lanes"))
  g_check_known := ⟨He.glo_ok X G (He.ba (c.fact 46 (f := fGlo "check_known"))).1, (He.ba (c.fact 46 (f := fGlo "check_known"))).2⟩
  g_lanes_of := ⟨He.glo_ok X G (He.ba (c.fact 47 (f := fGlo "lanes_of"))).1, (He.ba (c.fact 47 (f := fGlo "lanes_of"))).2⟩
  g_NoRun := ⟨He.glo_ok X G (He.ba (c.fact 48 (f := fGlo "NoRun"))).1, (He.ba (c.fact 48 (f := fGlo "NoRun"))).2⟩
  me_Net_out_of := He.meth_ok (c.fact 49 (f := fMeth "Net" "out_of"))
  me_Machine_begun := He.meth_ok (c.fact 50 (f := fMeth "Machine" "begun"))
  me_Machine_is_done := He.meth_ok (c.fact 51 (f := fMeth "Machine" "is_done"))
  g_machine_of := ⟨He.glo_ok X G (He.ba (c.fact 52 (f := fGlo "machine_of"))).1, (He.ba (c.fact 52 (f := fGlo "machine_of"))).2⟩
  g_check_used := ⟨He.glo_ok X G (He.ba (c.fact 53 (f := fGlo "check_used"))).1, (He.ba (c.fact 53 (f := fGlo "check_used"))).2⟩
  g_shortest_run := ⟨He.glo_ok X G (He.ba (c.fact 54 (f := fGlo "shortest_run"))).1, (He.ba (c.fact 54 (f := fGlo "shortest_run"))).2⟩
  g_SameLane := ⟨He.glo_ok X G (He.ba (c.fact 55 (f := fGlo "SameLane"))).1, (He.ba (c.fact 55 (f := fGlo "SameLane"))).2⟩
  bo_Net_Sub := bo_ok (c.fact 56 (f := fBo "Net" .Sub))
  n_int := He.free_ok X G (c.fact 57 (f := fFree "int"))
  g_law_take := ⟨He.glo_ok X G (He.ba (c.fact 58 (f := fGlo "_law_take"))).1, (He.ba (c.fact 58 (f := fGlo "_law_take"))).2⟩
  g_law_many := ⟨He.glo_ok X G (He.ba (c.fact 59 (f := fGlo "_law_many"))).1, (He.ba (c.fact 59 (f := fGlo "_law_many"))).2⟩
  g_law_mixed := ⟨He.glo_ok X G (He.ba (c.fact 60 (f := fGlo "_law_mixed"))).1, (He.ba (c.fact 60 (f := fGlo "_law_mixed"))).2⟩
  g_law_ways := ⟨He.glo_ok X G (He.ba (c.fact 61 (f := fGlo "_law_ways"))).1, (He.ba (c.fact 61 (f := fGlo "_law_ways"))).2⟩
  xc_NoRun := xcB_ok (c.fact 62 (f := fXc "NoRun"))
  xn_NoRun_name := He.noat_ok (c.fact 63 (f := fNoat "NoRun" "name"))
  xc_SameLane := xcB_ok (c.fact 64 (f := fXc "SameLane"))
  xn_SameLane_name := He.noat_ok (c.fact 65 (f := fNoat "SameLane" "name"))
  xc_NoLane := xcB_ok (c.fact 66 (f := fXc "NoLane"))
  xn_NoLane_name := He.noat_ok (c.fact 67 (f := fNoat "NoLane" "name"))
  g_gate := ⟨He.glo_ok X G (He.ba (c.fact 68 (f := fGlo "gate"))).1, (He.ba (c.fact 68 (f := fGlo "gate"))).2⟩
  g_law_ends := ⟨He.glo_ok X G (He.ba (c.fact 69 (f := fGlo "_law_ends"))).1, (He.ba (c.fact 69 (f := fGlo "_law_ends"))).2⟩
  g_law_pool := ⟨He.glo_ok X G (He.ba (c.fact 70 (f := fGlo "_law_pool"))).1, (He.ba (c.fact 70 (f := fGlo "_law_pool"))).2⟩
  g_law_cell := ⟨He.glo_ok X G (He.ba (c.fact 71 (f := fGlo "_law_cell"))).1, (He.ba (c.fact 71 (f := fGlo "_law_cell"))).2⟩
  g_law_line_net := ⟨He.glo_ok X G (He.ba (c.fact 72 (f := fGlo "_law_line_net"))).1, (He.ba (c.fact 72 (f := fGlo "_law_line_net"))).2⟩
  g_law_course := ⟨He.glo_ok X G (He.ba (c.fact 73 (f := fGlo "_law_course"))).1, (He.ba (c.fact 73 (f := fGlo "_law_course"))).2⟩
  mk_Course := He.mkr_ok (c.fact 74 (f := fMkr "Course"))
  g_Course := ⟨He.glo_ok X G (He.ba (c.fact 75 (f := fGlo "Course"))).1, (He.ba (c.fact 75 (f := fGlo "Course"))).2⟩
  g_law_built := ⟨He.glo_ok X G (He.ba (c.fact 76 (f := fGlo "_law_built"))).1, (He.ba (c.fact 76 (f := fGlo "_law_built"))).2⟩
  g_law_used := ⟨He.glo_ok X G (He.ba (c.fact 77 (f := fGlo "_law_used"))).1, (He.ba (c.fact 77 (f := fGlo "_law_used"))).2⟩
  g_law_lanes := ⟨He.glo_ok X G (He.ba (c.fact 78 (f := fGlo "_law_lanes"))).1, (He.ba (c.fact 78 (f := fGlo "_law_lanes"))).2⟩
  g_law_stranger := ⟨He.glo_ok X G (He.ba (c.fact 79 (f := fGlo "_law_stranger"))).1, (He.ba (c.fact 79 (f := fGlo "_law_stranger"))).2⟩
  g_law_told := ⟨He.glo_ok X G (He.ba (c.fact 80 (f := fGlo "_law_told"))).1, (He.ba (c.fact 80 (f := fGlo "_law_told"))).2⟩
  g_law_free := ⟨He.glo_ok X G (He.ba (c.fact 81 (f := fGlo "_law_free"))).1, (He.ba (c.fact 81 (f := fGlo "_law_free"))).2⟩
  g_law_right := ⟨He.glo_ok X G (He.ba (c.fact 82 (f := fGlo "_law_right"))).1, (He.ba (c.fact 82 (f := fGlo "_law_right"))).2⟩
  g_without := ⟨He.glo_ok X G (He.ba (c.fact 83 (f := fGlo "without"))).1, (He.ba (c.fact 83 (f := fGlo "without"))).2⟩
  xc_BadName := xcB_ok (c.fact 84 (f := fXc "BadName"))
  xi_BadName := xi_ok (c.fact 85 (f := fXi "BadName"))
  xn_BadName_name := He.noat_ok (c.fact 86 (f := fNoat "BadName" "name"))
  xc_NameTaken := xcB_ok (c.fact 87 (f := fXc "NameTaken"))
  xi_NameTaken := xi_ok (c.fact 88 (f := fXi "NameTaken"))
  xn_NameTaken_name := He.noat_ok (c.fact 89 (f := fNoat "NameTaken" "name"))
  xc_NoPost := xcB_ok (c.fact 90 (f := fXc "NoPost"))
  xi_NoPost := xi_ok (c.fact 91 (f := fXi "NoPost"))
  xn_NoPost_name := He.noat_ok (c.fact 92 (f := fNoat "NoPost" "name"))
  xi_NoLane := xi_ok (c.fact 93 (f := fXi "NoLane"))
  xi_NoRun := xi_ok (c.fact 94 (f := fXi "NoRun"))
  xi_SameLane := xi_ok (c.fact 95 (f := fXi "SameLane"))
  g_law := ⟨He.glo_ok X G (He.ba (c.fact 96 (f := fGlo "law"))).1, (He.ba (c.fact 96 (f := fGlo "law"))).2⟩
  kt_NoneType_str := kit_ok (c.fact 97 (f := fKit "NoneType" "str" false))
  kt_bool_str := kit_ok (c.fact 98 (f := fKit "bool" "str" false))
  kt_int_str := kit_ok (c.fact 99 (f := fKit "int" "str" false))
  kt_list_str := kit_ok (c.fact 100 (f := fKit "list" "str" false))
  kt_tuple_str := kit_ok (c.fact 101 (f := fKit "tuple" "str" false))
  kt_str_str := kit_ok (c.fact 102 (f := fKit "str" "str" true))
  na_Machine_atoms := He.noat_ok (c.fact 103 (f := fNoat "Machine" "atoms"))
  na_Machine_firsts := He.noat_ok (c.fact 104 (f := fNoat "Machine" "firsts"))
  na_Machine_lasts := He.noat_ok (c.fact 105 (f := fNoat "Machine" "lasts"))
  na_Machine_pairs := He.noat_ok (c.fact 106 (f := fNoat "Machine" "pairs"))
  na_Machine_is_optional := He.noat_ok (c.fact 107 (f := fNoat "Machine" "is_optional"))
  np_0 := noP_ok (c.fact 108 (f := fNoP))
  cl_Pattern := He.cls_ok (c.fact 109 (f := fCls "Pattern"))
  na_Pattern_tree := He.noat_ok (c.fact 110 (f := fNoat "Pattern" "tree"))
  ci_Pattern := clsI_ok (c.fact 111 (f := fClsI "Pattern"))
  ko_Pattern_Pattern := kitO_ok (c.fact 112 (f := fKitO "Pattern" "Pattern" true))
  kc_list_Pattern := kitC_ok (c.fact 113 (f := fKitC "list" "Pattern" false))
  kc_tuple_Pattern := kitC_ok (c.fact 114 (f := fKitC "tuple" "Pattern" false))
  na_Net_order := He.noat_ok (c.fact 115 (f := fNoat "Net" "order"))
  na_Net_ends_by_lane := He.noat_ok (c.fact 116 (f := fNoat "Net" "ends_by_lane"))
  cl_Course := He.cls_ok (c.fact 117 (f := fCls "Course"))
  na_Course_base := He.noat_ok (c.fact 118 (f := fNoat "Course" "base"))
  na_Course_start := He.noat_ok (c.fact 119 (f := fNoat "Course" "start"))
  na_Course_ends := He.noat_ok (c.fact 120 (f := fNoat "Course" "ends"))
  bt_Net_Sub_tuple := boT_ok (c.fact 121 (f := fBoT "Net" .Sub "tuple"))
  ex_NoLane_NoLane := He.exm_ok (c.fact 122 (f := fExm "NoLane" "NoLane" true))
  ex_SameLane_NoLane := He.exm_ok (c.fact 123 (f := fExm "SameLane" "NoLane" false))
  ex_SameLane_SameLane := He.exm_ok (c.fact 124 (f := fExm "SameLane" "SameLane" true))
  ex_NoRun_NoLane := He.exm_ok (c.fact 125 (f := fExm "NoRun" "NoLane" false))
  ex_NoRun_SameLane := He.exm_ok (c.fact 126 (f := fExm "NoRun" "SameLane" false))
  ex_NoRun_NoRun := He.exm_ok (c.fact 127 (f := fExm "NoRun" "NoRun" true))
  kt_tuple_tuple := kit_ok (c.fact 128 (f := fKit "tuple" "tuple" true))
  d_is_name := c.def_ 0
  d_first_missing := c.def_ 1
  d_check_lanes := c.def_ 2
  d_crossed := c.def_ 3
  d_read_tree := c.def_ 4
  d_Machine___init := c.def_ 5
  d_made_machine := c.def_ 6
  d_Pattern___init := c.def_ 7
  d_word_pattern := c.def_ 8
  d_as_pattern := c.def_ 9
  d_machine_of := c.def_ 10
  d_Machine_takes := c.def_ 11
  d_Machine_is_behind := c.def_ 12
  d_Machine_after := c.def_ 13
  d_Machine_begun := c.def_ 14
  d_Machine_is_done := c.def_ 15
  d_Net___init := c.def_ 16
  d_Net_posts := c.def_ 17
  d_Net_lanes := c.def_ 18
  d_Net_post := c.def_ 19
  d_Net_lane := c.def_ 20
  d_Net_start_of := c.def_ 21
  d_Net_end_of := c.def_ 22
  d_Net_out_of := c.def_ 23
  d_Net_copy := c.def_ 24
  d_Net___neg := c.def_ 25
  d_Net___sub := c.def_ 26
  d_law_built := c.def_ 27
  d_law_ends := c.def_ 28
  d_law_ways := c.def_ 29
  d_reached_posts := c.def_ 30
  d_posts_before := c.def_ 31
  d_Course___init := c.def_ 32
  d_lanes_of := c.def_ 33
  d_check_known := c.def_ 34
  d_check_used := c.def_ 35
  d_shortest_run := c.def_ 36
  d_without := c.def_ 37
  d_gate := c.def_ 38
  d_law_cell := c.def_ 39
  d_law_pool := c.def_ 40
  d_law_take := c.def_ 41
  d_law_many := c.def_ 42
  d_law_mixed := c.def_ 43
  d_law_line_net := c.def_ 44
  d_law_course := c.def_ 45
  d_law_lanes := c.def_ 46
  d_law_stranger := c.def_ 47
  d_law_used := c.def_ 48
  d_law_told := c.def_ 49
  d_law_free := c.def_ 50
  d_law_right := c.def_ 51
  d_law := c.def_ 52
  d_BadName___init := c.def_ 53
  d_NameTaken___init := c.def_ 54
  d_NoPost___init := c.def_ 55
  d_NoLane___init := c.def_ 56
  d_NoRun___init := c.def_ 57
  d_SameLane___init := c.def_ 58
section
variable {P : Program} {w : World} {K : PySem.W.Frag} {mg : Str → Option Value} {base : Heap}
theorem z_BadName (T : Tx K mg) : Xn P w K mg base (He.ga K "BadName") "name" := by
  obtain ⟨fd, F⟩ := T.d_BadName___init
  exact ⟨T.xc_BadName, T.xn_BadName_name, _, fd, "name", T.xi_BadName.1, T.xi_BadName.2, init1_ok F sc_BadName___init (fun cdv A outer s H E => pss_one (ps_ost (pv 0) (pv 1))), F.bindsN (fun _ _ _ _ _ _ us hl => match us, hl with | [_, _], _ => rfl)⟩
theorem z_NameTaken (T : Tx K mg) : Xn P w K mg base (He.ga K "NameTaken") "name" := by
  obtain ⟨fd, F⟩ := T.d_NameTaken___init
  exact ⟨T.xc_NameTaken, T.xn_NameTaken_name, _, fd, "name", T.xi_NameTaken.1, T.xi_NameTaken.2, init1_ok F sc_NameTaken___init (fun cdv A outer s H E => pss_one (ps_ost (pv 0) (pv 1))), F.bindsN (fun _ _ _ _ _ _ us hl => match us, hl with | [_, _], _ => rfl)⟩
theorem z_NoPost (T : Tx K mg) : Xn P w K mg base (He.ga K "NoPost") "name" := by
  obtain ⟨fd, F⟩ := T.d_NoPost___init
  exact ⟨T.xc_NoPost, T.xn_NoPost_name, _, fd, "name", T.xi_NoPost.1, T.xi_NoPost.2, init1_ok F sc_NoPost___init (fun cdv A outer s H E => pss_one (ps_ost (pv 0) (pv 1))), F.bindsN (fun _ _ _ _ _ _ us hl => match us, hl with | [_, _], _ => rfl)⟩
theorem z_NoLane (T : Tx K mg) : Xn P w K mg base (He.ga K "NoLane") "name" := by
  obtain ⟨fd, F⟩ := T.d_NoLane___init
  exact ⟨T.xc_NoLane, T.xn_NoLane_name, _, fd, "name", T.xi_NoLane.1, T.xi_NoLane.2, init1_ok F sc_NoLane___init (fun cdv A outer s H E => pss_one (ps_ost (pv 0) (pv 1))), F.bindsN (fun _ _ _ _ _ _ us hl => match us, hl with | [_, _], _ => rfl)⟩
theorem z_NoRun (T : Tx K mg) : Xn P w K mg base (He.ga K "NoRun") "name" := by
  obtain ⟨fd, F⟩ := T.d_NoRun___init
  exact ⟨T.xc_NoRun, T.xn_NoRun_name, _, fd, "name", T.xi_NoRun.1, T.xi_NoRun.2, init1_ok F sc_NoRun___init (fun cdv A outer s H E => pss_one (ps_ost (pv 0) (pv 1))), F.bindsN (fun _ _ _ _ _ _ us hl => match us, hl with | [_, _], _ => rfl)⟩
theorem z_SameLane (T : Tx K mg) : Xn P w K mg base (He.ga K "SameLane") "name" := by
  obtain ⟨fd, F⟩ := T.d_SameLane___init
  exact ⟨T.xc_SameLane, T.xn_SameLane_name, _, fd, "name", T.xi_SameLane.1, T.xi_SameLane.2, init1_ok F sc_SameLane___init (fun cdv A outer s H E => pss_one (ps_ost (pv 0) (pv 1))), F.bindsN (fun _ _ _ _ _ _ us hl => match us, hl with | [_, _], _ => rfl)⟩
theorem all_ok {fd : FuncData} (T : Tx K mg) (F : FunD K "law" "law" (defArgs s_law) (defBody s_law) (defScope s_law) [] [] (He.ga K "law") fd) : FnOk P w K mg base (L2.CX P w) 30 (He.ga K "law") fd ["_law_script"] (spC K (ct_law K)) := by
  have Z_BadName : Xn P w K mg base (He.ga K "BadName") "name" := z_BadName T
  have Z_NameTaken : Xn P w K mg base (He.ga K "NameTaken") "name" := z_NameTaken T
  have Z_NoPost : Xn P w K mg base (He.ga K "NoPost") "name" := z_NoPost T
  have Z_NoLane : Xn P w K mg base (He.ga K "NoLane") "name" := z_NoLane T
  have Z_NoRun : Xn P w K mg base (He.ga K "NoRun") "name" := z_NoRun T
  have Z_SameLane : Xn P w K mg base (He.ga K "SameLane") "name" := z_SameLane T
  have F_is_name : Fn P w K mg base 4 (He.ga K "is_name") ["word"] (ct_is_name K) := ok_is_name T
  have F_first_missing : Fn P w K mg base 4 (He.ga K "first_missing") ["names", "known"] (ct_first_missing K) := ok_first_missing T
  have F_check_lanes : Fn P w K mg base 6 (He.ga K "check_lanes") ["lanes"] (ct_check_lanes K) := ok_check_lanes T F_is_name Z_BadName
  have F_crossed : Fn P w K mg base 4 (He.ga K "crossed") ["one", "two"] (ct_crossed K) := ok_crossed T
  have F_read_tree : Fn P w K mg base 22 (He.ga K "read_tree") ["tree", "start"] (ct_read_tree 8 K) := ok_read_tree T F_crossed 8
  have F_Machine___init : Fn P w K mg base 4 (He.ma K (He.ga K "Machine") "__init__") ["self", "atoms", "firsts", "lasts", "pairs", "is_optional"] (ct_Machine___init K) := ok_Machine___init T
  have F_made_machine : Fn P w K mg base 24 (He.ga K "made_machine") ["tree"] (ct_made_machine K) := ok_made_machine T F_read_tree F_Machine___init
  have F_Pattern___init : Fn P w K mg base 4 (He.ma K (He.ga K "Pattern") "__init__") ["self", "tree"] (ct_Pattern___init K) := ok_Pattern___init T
  have F_word_pattern : Fn P w K mg base 6 (He.ga K "word_pattern") ["names"] (ct_word_pattern K) := ok_word_pattern T F_Pattern___init
  have F_as_pattern : Fn P w K mg base 8 (He.ga K "as_pattern") ["thing"] (ct_as_pattern K) := ok_as_pattern T F_check_lanes F_word_pattern
  have F_machine_of : Fn P w K mg base 26 (He.ga K "machine_of") ["thing"] (ct_machine_of K) := ok_machine_of T F_made_machine F_as_pattern
  have F_Machine_takes : Fn P w K mg base 4 (He.ma K (He.ga K "Machine") "takes") ["self", "atom", "lane"] (ct_Machine_takes K) := ok_Machine_takes T
  have F_Machine_is_behind : Fn P w K mg base 4 (He.ma K (He.ga K "Machine") "is_behind") ["self", "places", "atom"] (ct_Machine_is_behind K) := ok_Machine_is_behind T
  have F_Machine_after : Fn P w K mg base 6 (He.ma K (He.ga K "Machine") "after") ["self", "places", "lane"] (ct_Machine_after K) := ok_Machine_after T F_Machine_takes F_Machine_is_behind
  have F_Machine_begun : Fn P w K mg base 6 (He.ma K (He.ga K "Machine") "begun") ["self", "places", "lane"] (ct_Machine_begun K) := ok_Machine_begun T F_Machine_takes F_Machine_is_behind
  have F_Machine_is_done : Fn P w K mg base 4 (He.ma K (He.ga K "Machine") "is_done") ["self", "places"] (ct_Machine_is_done K) := ok_Machine_is_done T
  have F_Net___init : FnE P w K mg base 4 (He.ma K (He.ga K "Net") "__init__") ["self", "order", "ends_by_lane"] [.ref (He.dflAt ("Net", some "__init__") 0 K), .non] (ct_Net___init K) := ok_Net___init T
  have F_Net_posts : Fn P w K mg base 4 (pga K (He.ga K "Net") "posts") ["self"] (ct_Net_posts K) := ok_Net_posts T
  have F_Net_lanes : Fn P w K mg base 4 (pga K (He.ga K "Net") "lanes") ["self"] (ct_Net_lanes K) := ok_Net_lanes T
  have F_Net_post : Fn P w K mg base 6 (He.ma K (He.ga K "Net") "post") ["self", "name"] (ct_Net_post K) := ok_Net_post T F_is_name Z_BadName Z_NameTaken
  have F_Net_lane : Fn P w K mg base 6 (He.ma K (He.ga K "Net") "lane") ["self", "name", "start", "end"] (ct_Net_lane K) := ok_Net_lane T F_is_name Z_BadName Z_NameTaken Z_NoPost
  have F_Net_start_of : Fn P w K mg base 4 (He.ma K (He.ga K "Net") "start_of") ["self", "lane"] (ct_Net_start_of K) := ok_Net_start_of T Z_NoLane
  have F_Net_end_of : Fn P w K mg base 4 (He.ma K (He.ga K "Net") "end_of") ["self", "lane"] (ct_Net_end_of K) := ok_Net_end_of T Z_NoLane
  have F_Net_out_of : Fn P w K mg base 4 (He.ma K (He.ga K "Net") "out_of") ["self", "post"] (ct_Net_out_of K) := ok_Net_out_of T Z_NoPost
  have F_Net_copy : Fn P w K mg base 6 (He.ma K (He.ga K "Net") "copy") ["self"] (ct_Net_copy K) := ok_Net_copy T F_Net___init
  have F_Net___neg : Fn P w K mg base 6 (He.ma K (He.ga K "Net") "__neg__") ["self"] (ct_Net___neg K) := ok_Net___neg T F_Net___init
  have F_Net___sub : Fn P w K mg base 6 (He.ma K (He.ga K "Net") "__sub__") ["self", "lanes"] (ct_Net___sub K) := ok_Net___sub T F_first_missing F_Net___init Z_NoLane
  have F_law_built : Fn P w K mg base 8 (He.ga K "_law_built") ["_law_parts"] (ct_law_built K) := ok_law_built T F_Net___init F_Net_post F_Net_lane
  have F_law_ends : Fn P w K mg base 4 (He.ga K "_law_ends") ["_law_parts"] (ct_law_ends K) := ok_law_ends T
  have F_law_ways : Fn P w K mg base 4 (He.ga K "_law_ways") ["_law_parts", "_law_start"] (ct_law_ways K) := ok_law_ways T
  have F_reached_posts : Fn P w K mg base 4 (He.ga K "reached_posts") ["net", "start"] (ct_reached_posts K) := ok_reached_posts T
  have F_posts_before : Fn P w K mg base 8 (He.ga K "posts_before") ["net", "ends"] (ct_posts_before K) := ok_posts_before T F_Net___neg F_reached_posts
  have F_Course___init : Fn P w K mg base 8 (He.ma K (He.ga K "Course") "__init__") ["self", "net", "start", "ends"] (ct_Course___init K) := ok_Course___init T F_first_missing F_Net_posts F_Net_copy Z_NoPost
  have F_lanes_of : Fn P w K mg base 10 (He.ga K "lanes_of") ["course"] (ct_lanes_of K) := ok_lanes_of T F_Net_lanes F_Net_start_of F_Net_end_of F_reached_posts F_posts_before
  have F_check_known : Fn P w K mg base 6 (He.ga K "check_known") ["course", "lanes"] (ct_check_known K) := ok_check_known T F_first_missing F_Net_lanes Z_NoLane
  have F_check_used : Fn P w K mg base 12 (He.ga K "check_used") ["course", "lanes"] (ct_check_used K) := ok_check_used T F_first_missing F_lanes_of F_check_known Z_NoRun
  have F_shortest_run : Fn P w K mg base 8 (He.ga K "shortest_run") ["course", "wanted", "machine"] (ct_shortest_run K) := ok_shortest_run T F_Machine_begun F_Machine_is_done F_Net_end_of F_Net_out_of
  have F_without : Fn P w K mg base 28 (He.ga K "without") ["course", "lane", "pattern"] (ct_without K) := ok_without T F_machine_of F_check_used F_shortest_run
  have F_gate : Fn P w K mg base 14 (He.ga K "gate") ["course", "lane", "other"] (ct_gate K) := ok_gate T F_Net_start_of F_Net_end_of F_Net___sub F_reached_posts F_check_known F_check_used Z_SameLane
  have F_law_cell : Fn P w K mg base 4 (He.ga K "_law_cell") ["_law_script", "_law_k"] (ct_law_cell K) := ok_law_cell T
  have F_law_pool : Fn P w K mg base 4 (He.ga K "_law_pool") ["_law_cell_here"] (ct_law_pool K) := ok_law_pool T
  have F_law_take : Fn P w K mg base 4 (He.ga K "_law_take") ["_law_pool_here", "_law_many_here"] (ct_law_take K) := ok_law_take T
  have F_law_many : Fn P w K mg base 6 (He.ga K "_law_many") ["_law_pool_here", "_law_many_here"] (ct_law_many K) := ok_law_many T F_law_take
  have F_law_mixed : Fn P w K mg base 6 (He.ga K "_law_mixed") ["_law_pool_here", "_law_things"] (ct_law_mixed K) := ok_law_mixed T F_law_take
  have F_law_line_net : Fn P w K mg base 8 (He.ga K "_law_line_net") ["_law_pool_here", "_law_most", "_law_lanes_here"] (ct_law_line_net K) := ok_law_line_net T F_law_take F_law_many F_law_mixed
  have F_law_course : Fn P w K mg base 6 (He.ga K "_law_course") ["_law_pool_here", "_law_parts"] (ct_law_course K) := ok_law_course T F_law_take
  have F_law_lanes : Fn P w K mg base 4 (He.ga K "_law_lanes") ["_law_parts"] (ct_law_lanes K) := ok_law_lanes T
  have F_law_stranger : Fn P w K mg base 6 (He.ga K "_law_stranger") ["_law_pool_here", "_law_names"] (ct_law_stranger K) := ok_law_stranger T F_law_take
  have F_law_used : Fn P w K mg base 6 (He.ga K "_law_used") ["_law_parts", "_law_start", "_law_ends_here"] (ct_law_used K) := ok_law_used T F_law_ways
  have F_law_told : Fn P w K mg base 16 (He.ga K "_law_told") ["_law_course_here", "_law_lane", "_law_other"] (ct_law_told K) := ok_law_told T F_gate
  have F_law_free : Fn P w K mg base 6 (He.ga K "_law_free") ["_law_parts", "_law_start", "_law_ends_here", "_law_lane", "_law_other"] (ct_law_free K) := ok_law_free T F_law_ends F_law_ways
  have F_law_right : Fn P w K mg base 6 (He.ga K "_law_right") ["_law_parts", "_law_start", "_law_ends_here", "_law_told_here"] (ct_law_right K) := ok_law_right T F_law_ends
  exact ok_law T F_law_built F_Course___init F_without F_law_cell F_law_pool F_law_line_net F_law_course F_law_lanes F_law_stranger F_law_used F_law_told F_law_free F_law_right F
end
def names0 : List Str := ["_wall", "ShowError", "BadName", "NameTaken", "NoPost", "NoLane", "Clash", "EmptyWalk", "BadText", "BadNumber", "NoRun", "SameLane", "Machine", "made_machine", "read_tree", "crossed", "accepts", "LETTERS", "DIGITS", "LONGEST", "is_name", "is_whole", "is_count", "first_missing", "are_strings", "are_names", "Net", "made_of_both", "is_within", "reached_posts"]
def names1 : List Str := ["ENDS", "sign_at", "read_pattern", "behind_row", "read_row", "read_item", "read_name", "read_names", "read_group", "expect", "in_order", "check_lanes", "joined", "opposite", "tree_names", "text_of", "atom_text", "Pattern", "word_pattern", "as_pattern", "machine_of", "Course", "posts_before", "lanes_of", "check_known", "check_used", "shortest_run", "without", "gate", "_law_cell"]
def names2 : List Str := ["_law_pool", "_law_take", "_law_many", "_law_mixed", "_law_line_net", "_law_built", "_law_ends", "_law_ways", "_law_course", "_law_lanes", "_law_stranger", "_law_used", "_law_told", "_law_free", "_law_right"]
abbrev names : List Str := names0 ++ names1 ++ names2
abbrev R : PySem.W.OpenRow := PySem.W.OpenLaw.row PySem.Challenge.rw_alsoshown_k49_gates
abbrev qv : Program := view R.prog [85]
def rts0 : List Str := ["is_name", "first_missing", "check_lanes", "crossed", "read_tree", "Machine", "made_machine", "Pattern", "word_pattern", "as_pattern", "machine_of", "Net", "_law_built", "_law_ends", "_law_ways", "reached_posts", "posts_before", "Course", "lanes_of", "check_known", "check_used", "shortest_run", "without", "gate", "_law_cell", "_law_pool", "_law_take", "_law_many", "_law_mixed", "_law_line_net"]
def rts1 : List Str := ["_law_course", "_law_lanes", "_law_stranger", "_law_used", "_law_told", "_law_free", "_law_right", "law", "BadName", "NameTaken", "NoPost", "NoLane", "NoRun", "SameLane", "LETTERS", "LONGEST", "DIGITS", "EmptyWalk"]
abbrev rts : List Str := rts0 ++ rts1
abbrev hk : PySem.W.Hook := hookZ 5 rts exs dfs
def ob (s : PySem.W.SharedT) : AlY := obsZG 5 rts exs dfs (HandSHeadRun.getT s)
theorem ob_eq (s : PySem.W.SharedT) : ob s = hk.obs s.abs := obsZG_eq (HandSHeadRun.getT_eq s)
theorem run0 (w : World) : HandSHeadRun.RunEq R qv hk ob 14000 names (w.withFollow "special-get-raises" false) := by
  intro os
  kernel_rfl
theorem run1 (w : World) : HandSHeadRun.RunEq R qv hk ob 14000 names (w.withFollow "special-get-raises" true) := by
  intro os
  kernel_rfl
theorem run (w : World) : HandSHeadRun.RunEq R qv hk ob 14000 names w := PySem.W.byRow2 "special-get-raises" (P := fun w => HandSHeadRun.RunEq R qv hk ob 14000 names w) run0 run1 w
end K49
open PySem PySem.W PySem.Calls PyProof.Rows
theorem PySem.Challenge.cw_alsoshown_k49_gates_holds : PySem.Challenge.rw_alsoshown_k49_gates.Holds := by
  w_on; o_law
  refine HandSHeadRun.head_any (r := K49.R) (q := K49.qv) (H := K49.hk) (ob := K49.ob) (M := 14000) (loose := K49.names) (d := HandSHeadRun.topDef K49.R.prog 85) (kwd := []) K49.ob_eq
    (by kernel_rfl) (fun s => by kernel_rfl) K49.run (by kernel_rfl) (by kernel_rfl) (by kernel_rfl) (by rfl) (by first | assumption | decide +kernel) (by decide +kernel) ⟨rfl, rfl, rfl, rfl, rfl, by decide +kernel⟩ ?hw ?hc
  case hw => w_witness2
  case hc =>
    refine DL.walk_D (l := PySem.Challenge.rw_alsoshown_k49_gates) (n := 63) (k := 30) (x := "_law_script") rfl (by decide) (by kernel_rfl) ⟨rfl, by decide, by decide⟩ ?F
    intro w mg fa h Y G hmg0
    obtain ⟨K, KX, c⟩ := Y
    have hmg : mg ("law" : PySem.Str) = some (.ref fa) := by
      have e : (HandSHeadRun.topDef K49.R.prog 85).name = ("law" : PySem.Str) := by kernel_rfl
      rw [← e]
      exact hmg0
    have T := K49.tx_of KX G c
    obtain ⟨fd, F⟩ := T.d_law
    have e := hmg.symm.trans T.g_law.1
    cases e
    exact ⟨K, K49.ct_law K, fd, KX, fun z ns hs => ⟨z, rfl, ns, hs, rfl, rfl⟩, fun s v => L2.FunD.bindsA (ps := ["_law_script"]) F (fun _ _ _ _ _ _ us hl => match us, hl with | [_], _ => rfl) s [v] rfl, fun base => K49.all_ok T F⟩


