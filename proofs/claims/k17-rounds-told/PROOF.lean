import PyProof.Rows.All
import Wide.All
import OpenK.AllK
import Wide.FinOn
import HandS.Base
import HandS.Call
import HandS.List
import HandS.Comp
import HandS.Dict
import HandS.Iter
import HandS.Text
import HandS.Evl
import HandS.TupAny
import HandS.Wide
import HandS.Steps
import HandS.Exc
import HandS.Words
import HandS.WordsExc
import PyProof.NeData
import HandS.OwnEq
import HandS.Property
import HandS.IsInst
import HandS.ExcInit
import HandS.Defaults
import KE.KOpsOwn
import PyProof.InstNe
import HandS.Head0
import HandS.ExcField
import HandS.ExcOwn
import HandS.Codes
import HandS.Conv
import HandS.Style
import KE.KStateDown
import HandS.Head1
import HandS.Head2
import HandS.HeadEnd
import HandS.HeadHook1
import HandS.HeadHook2
import HandS.EndBits
import HandS.TupMul
import KE.DataCmp
import KE.DatumOrd
import HandS.DictComp
import HandS.RaiseMore
import KE.DataEq
import HandS.Finally
import KE.GoesNew
import KE.GoesMore
import OpenK.KMeth
import HandS.Small
import PySem.Challenge.RW_alsoshown_k17_rounds_told
set_option Elab.async false
set_option linter.all false
set_option maxRecDepth 100000
set_option maxHeartbeats 4000000
/-! DA: a logic of data over the readings: frozen data, views, cells (own work). -/
namespace DL
open PySem L2

/-- data -/
inductive D where
  | non | bl (b : Bool) | int (i : Int) | str (s : Str)
  | tup (xs : List D) | lst (xs : List D) | dic (kvs : List (Key × D)) | dit (kvs : List (List Key × D))
  | ins (C : Addr) (fs : List (Str × D)) | ty (n : String) | adr (a : Addr)

mutual
def Rp (K : PySem.W.Frag) (F : Hp) : D → V → Prop
  | .non, v => v = .non
  | .bl b, v => v = .bl b
  | .int i, v => v = .int i
  | .str s, v => v = .str s
  | .ty n, v => v = .ty n
  | .adr a, v => v = .ref a
  | .tup ds, v => ∃ a xs, v = .ref a ∧ SqT K F a xs ∧ RpL K F ds xs
  | .lst ds, v => ∃ a xs, v = .ref a ∧ Rd F a (.lst xs) ∧ RpL K F ds xs
  | .dic ds, v => ∃ a xs, v = .ref a ∧ Rd F a (.dK xs) ∧ RpK K F ds xs
  | .dit ds, v => ∃ a xs, v = .ref a ∧ Rd F a (.dT xs) ∧ RpT K F ds xs
  | .ins C ds, v => ∃ a dx xs, v = .ref a ∧ Rd F a (.ins C dx xs) ∧ RpF K F ds xs
def RpL (K : PySem.W.Frag) (F : Hp) : List D → List V → Prop
  | [], xs => xs = []
  | d :: ds, xs => ∃ x ys, xs = x :: ys ∧ Rp K F d x ∧ RpL K F ds ys
def RpK (K : PySem.W.Frag) (F : Hp) : List (Key × D) → List (Key × V) → Prop
  | [], xs => xs = []
  | (k, d) :: ds, xs => ∃ x ys, xs = (k, x) :: ys ∧ Rp K F d x ∧ RpK K F ds ys
def RpT (K : PySem.W.Frag) (F : Hp) : List (List Key × D) → List (List Key × V) → Prop
  | [], xs => xs = []
  | (k, d) :: ds, xs => ∃ x ys, xs = (k, x) :: ys ∧ Rp K F d x ∧ RpT K F ds ys
def RpF (K : PySem.W.Frag) (F : Hp) : List (Str × D) → List (Str × V) → Prop
  | [], xs => xs = []
  | (k, d) :: ds, xs => ∃ x ys, xs = (k, x) :: ys ∧ Rp K F d x ∧ RpF K F ds ys
end


def isfz : HO → Bool
  | .frz _ _ => true
  | _ => false
/-- nothing of F is locked -/
def Nz (F : Hp) : Prop := ∀ a u, F a = some u → isfz u = false
/-- what a loop may lock -/
def lk : HO → Bool
  | .dK _ => true
  | .dT _ => true
  | .lst _ => true
  | _ => false
/-- all that F says may be read in H -/
def Exz (F H : Hp) : Prop := ∀ a u, F a = some u → H a = some u ∨ (lk u = true ∧ ∃ o, H a = some (.frz o u))
theorem exz_rd {F H : Hp} (e : Exz F H) {a : Addr} {u : HO} (h : F a = some u) : Rd H a u := by
  rcases e a u h with q | ⟨_, o, q⟩
  · exact .inl q
  · exact .inr ⟨o, q⟩
/-- what is never locked stands as it is -/
theorem Exz.at {F H : Hp} (e : Exz F H) {a : Addr} {u : HO} (h : F a = some u) (k : lk u = false) : H a = some u := by
  rcases e a u h with q | ⟨k2, _⟩
  · exact q
  · rw [k] at k2
    cases k2
/-- all of B stands in H as it is -/
def Sub (B H : Hp) : Prop := ∀ a o, B a = some o → H a = some o
theorem Sub.refl (H : Hp) : Sub H H := fun _ _ h => h
theorem Sub.trans {F G H : Hp} (a : Sub F G) (b : Sub G H) : Sub F H := fun x u h => b x u (a x u h)
theorem Sub.exz {B H : Hp} (e : Sub B H) : Exz B H := fun a u h => .inl (e _ _ h)
theorem Sub.new {H : Hp} {p : Addr} {o : HO} (h : H p = none) : Sub H (upd H p o) := fun a u e => by
  rw [upd_ne (ne_of_none e h)]
  exact e
theorem Sub.free {F H : Hp} (e : Sub F H) {a : Addr} (h : H a = none) : F a = none := by
  cases q : F a with
  | none => rfl
  | some o =>
    rw [e a o q] at h
    cases h
theorem rd_ne {H : Hp} {a : Addr} {u : HO} (h : Rd H a u) : H a ≠ none := by
  rcases h with h | ⟨o, h⟩ <;> rw [h] <;> exact fun q => by cases q
theorem Exz.free {F H : Hp} (e : Exz F H) {a : Addr} (h : H a = none) : F a = none := by
  cases q : F a with
  | none => rfl
  | some o => exact absurd h (rd_ne (exz_rd e q))
theorem Exz.rd {F H : Hp} (e : Exz F H) (n : Nz F) {a : Addr} {u : HO} (h : Rd F a u) : Rd H a u := by
  rcases h with h | ⟨o, h⟩
  · exact exz_rd e h
  · have := n a _ h
    cases this
theorem Exz.sub {F G H : Hp} (a : Exz F G) (b : Sub G H) : Exz F H := fun x u h => by
  rcases a x u h with q | ⟨k, o, q⟩
  · exact .inl (b _ _ q)
  · exact .inr ⟨k, o, b _ _ q⟩
theorem rd_sub {G H : Hp} {a : Addr} {u : HO} (h : Rd G a u) (b : Sub G H) : Rd H a u := by
  rcases h with q | ⟨o, q⟩
  · exact .inl (b _ _ q)
  · exact .inr ⟨o, b _ _ q⟩
theorem sqL_mono {K : PySem.W.Frag} {F H : Hp} {a : Addr} {xs : List V} (e : Exz F H) (n : Nz F) (h : SqL K F a xs) : SqL K H a xs := by
  rcases h with h | h
  · exact .inl (e.rd n h)
  · exact .inr h
theorem sqT_mono {K : PySem.W.Frag} {F H : Hp} {a : Addr} {xs : List V} (e : Exz F H) (n : Nz F) (h : SqT K F a xs) : SqT K H a xs := by
  rcases h with h | h
  · exact .inl (e.rd n h)
  · exact .inr h
section
variable {K : PySem.W.Frag} {F G : Hp}
mutual
theorem Rp.mono (e : Exz F G) (n : Nz F) : ∀ (d : D) (v : V), Rp K F d v → Rp K G d v
  | .non, _, h => h
  | .bl _, _, h => h
  | .int _, _, h => h
  | .str _, _, h => h
  | .ty _, _, h => h
  | .adr _, _, h => h
  | .tup ds, v, h => by
    obtain ⟨a, xs, e1, h1, h2⟩ := h
    exact ⟨a, xs, e1, sqT_mono e n h1, RpL.mono e n ds xs h2⟩
  | .lst ds, v, h => by
    obtain ⟨a, xs, e1, h1, h2⟩ := h
    exact ⟨a, xs, e1, e.rd n h1, RpL.mono e n ds xs h2⟩
  | .dic ds, v, h => by
    obtain ⟨a, xs, e1, h1, h2⟩ := h
    exact ⟨a, xs, e1, e.rd n h1, RpK.mono e n ds xs h2⟩
  | .dit ds, v, h => by
    obtain ⟨a, xs, e1, h1, h2⟩ := h
    exact ⟨a, xs, e1, e.rd n h1, RpT.mono e n ds xs h2⟩
  | .ins C ds, v, h => by
    obtain ⟨a, dx, xs, e1, h1, h2⟩ := h
    exact ⟨a, dx, xs, e1, e.rd n h1, RpF.mono e n ds xs h2⟩
theorem RpL.mono (e : Exz F G) (n : Nz F) : ∀ (ds : List D) (xs : List V), RpL K F ds xs → RpL K G ds xs
  | [], _, h => h
  | d :: ds, xs, h => by
    obtain ⟨x, ys, e1, h1, h2⟩ := h
    exact ⟨x, ys, e1, Rp.mono e n d x h1, RpL.mono e n ds ys h2⟩
theorem RpK.mono (e : Exz F G) (n : Nz F) : ∀ (ds : List (Key × D)) (xs : List (Key × V)), RpK K F ds xs → RpK K G ds xs
  | [], _, h => h
  | (k, d) :: ds, xs, h => by
    obtain ⟨x, ys, e1, h1, h2⟩ := h
    exact ⟨x, ys, e1, Rp.mono e n d x h1, RpK.mono e n ds ys h2⟩
theorem RpT.mono (e : Exz F G) (n : Nz F) : ∀ (ds : List (List Key × D)) (xs : List (List Key × V)), RpT K F ds xs → RpT K G ds xs
  | [], _, h => h
  | (k, d) :: ds, xs, h => by
    obtain ⟨x, ys, e1, h1, h2⟩ := h
    exact ⟨x, ys, e1, Rp.mono e n d x h1, RpT.mono e n ds ys h2⟩
theorem RpF.mono (e : Exz F G) (n : Nz F) : ∀ (ds : List (Str × D)) (xs : List (Str × V)), RpF K F ds xs → RpF K G ds xs
  | [], _, h => h
  | (k, d) :: ds, xs, h => by
    obtain ⟨x, ys, e1, h1, h2⟩ := h
    exact ⟨x, ys, e1, Rp.mono e n d x h1, RpF.mono e n ds ys h2⟩
end
end

/-! ### worlds -/
/-- what may be read of B and F together -/
def uni (B F : Hp) : Hp := fun a => match F a with
  | some o => some o
  | none => match B a with
    | some (.frz _ u) => if lk u then some u else none
    | x => x
inductive W where
  | val (d : D) | vw (d : D)
def WOk (K : PySem.W.Frag) (B F : Hp) (v : V) : W → Prop
  | .val d => Rp K F d v
  | .vw d => Rp K (uni B F) d v
inductive Nd where
  | lst (ds : List D) | dic (ds : List (Key × D)) | dit (ds : List (List Key × D)) | ldic (o : Obj) (xs : List (Key × V)) (ds : List (Key × D)) | ins (C : Addr) (ds : List (Str × D)) | xd (ds : List (Str × D))
def NdOk (K : PySem.W.Frag) (F H : Hp) (a : Addr) : Nd → Prop
  | .lst ds => ∃ xs, H a = some (.lst xs) ∧ RpL K F ds xs
  | .dic ds => ∃ xs, H a = some (.dK xs) ∧ RpK K F ds xs
  | .dit ds => ∃ xs, H a = some (.dT xs) ∧ RpT K F ds xs
  | .ldic o xs ds => H a = some (.frz o (.dK xs)) ∧ RpK K F ds xs
  | .ins C ds => ∃ dx xs, H a = some (.ins C dx xs) ∧ RpF K F ds xs
  | .xd ds => ∃ xs, H a = some (.xd xs) ∧ RpF K F ds xs
abbrev Cells := List (Addr × Nd)
/-- F has grown, off B -/
structure Gr (B F F' : Hp) : Prop where
  sub : Sub F F'
  off : ∀ a, F a = none → B a ≠ none → F' a = none
theorem Gr.refl (B F : Hp) : Gr B F F := ⟨Sub.refl F, fun _ h _ => h⟩
theorem Gr.trans {B F G H : Hp} (a : Gr B F G) (b : Gr B G H) : Gr B F H := ⟨a.sub.trans b.sub, fun x h n => b.off x (a.off x h n) n⟩
/-- the state by data, over the frozen F: the slots, the cells, what is held on the way -/
structure EnF (K : PySem.W.Frag) (B F : Hp) (ro : List (Option W)) (ka : Cells) (ta : List (V × W)) (sg : L2.St) (H : Hp) : Prop where
  nz : Nz F
  fz : Exz F H
  fr : Sub B H
  nd : (ka.map (·.1)).Nodup
  ce : ∀ p ∈ ka, F p.1 = none ∧ B p.1 = none ∧ NdOk K F H p.1 p.2
  ln : sg.length = ro.length
  sl : ∀ (i : Nat) (w : W), ro[i]? = some (some w) → ∃ v, sg[i]? = some (some v) ∧ WOk K B F v w
  tm : ∀ p ∈ ta, WOk K B F p.1 p.2
def En (K : PySem.W.Frag) (B F0 : Hp) (ro : List (Option W)) (ka : Cells) (ta : List (V × W)) (sg : L2.St) (H : Hp) : Prop :=
  ∃ F, Gr B F0 F ∧ EnF K B F ro ka ta sg H

theorem uni_nz {B F : Hp} (n : Nz F) : Nz (uni B F) := fun a u h => by
  unfold uni at h
  split at h
  · rename_i o q
    exact n a u (q.trans h)
  · split at h
    · rename_i ob x q
      split at h
      · rename_i hx
        cases h
        cases u <;> first | rfl | cases hx
      · cases h
    · rename_i x q
      cases u with
      | frz ob z => exact absurd h (q ob z)
      | _ => rfl
theorem uni_exz {B F H : Hp} (fz : Exz F H) (fr : Sub B H) : Exz (uni B F) H := fun a u h => by
  unfold uni at h
  split at h
  · rename_i o q
    exact fz a u (q.trans h)
  · split at h
    · rename_i ob x q
      split at h
      · rename_i hx
        cases h
        exact .inr ⟨hx, ob, fr _ _ q⟩
      · cases h
    · exact .inl (fr _ _ h)
theorem uni_of {B F : Hp} {a : Addr} {u : HO} (h : F a = some u) : uni B F a = some u := by
  unfold uni
  rw [h]
theorem uni_sub {B F : Hp} : Sub F (uni B F) := fun _ _ h => uni_of h
theorem uni_gr {B F F' : Hp} (g : Gr B F F') : Sub (uni B F) (uni B F') := fun a u h => by
  unfold uni at h ⊢
  cases q : F a with
  | some o =>
    rw [q] at h
    rw [g.sub a o q]
    exact h
  | none =>
    rw [q] at h
    have hb : B a ≠ none := fun z => by
      rw [z] at h
      cases h
    rw [g.off a q hb]
    exact h
theorem wok_gr {K : PySem.W.Frag} {B F F' : Hp} (n : Nz F) (g : Gr B F F') {v : V} {w : W} (h : WOk K B F v w) : WOk K B F' v w := by
  cases w with
  | val d => exact Rp.mono g.sub.exz n d v h
  | vw d => exact Rp.mono (uni_gr g).exz (uni_nz n) d v h
/-- frozen data may be viewed -/
theorem wok_vw {K : PySem.W.Frag} {B F : Hp} (n : Nz F) {v : V} {d : D} (h : WOk K B F v (.val d)) : WOk K B F v (.vw d) := Rp.mono uni_sub.exz n d v h
theorem ndok_gr {K : PySem.W.Frag} {B F F' H : Hp} (n : Nz F) (g : Gr B F F') {a : Addr} {x : Nd} (h : NdOk K F H a x) : NdOk K F' H a x := by
  cases x with
  | lst ds => obtain ⟨xs, e, r⟩ := h; exact ⟨xs, e, RpL.mono g.sub.exz n _ _ r⟩
  | dic ds => obtain ⟨xs, e, r⟩ := h; exact ⟨xs, e, RpK.mono g.sub.exz n _ _ r⟩
  | dit ds => obtain ⟨xs, e, r⟩ := h; exact ⟨xs, e, RpT.mono g.sub.exz n _ _ r⟩
  | ldic o xs ds => obtain ⟨e, r⟩ := h; exact ⟨e, RpK.mono g.sub.exz n _ _ r⟩
  | ins C ds => obtain ⟨dx, xs, e, r⟩ := h; exact ⟨dx, xs, e, RpF.mono g.sub.exz n _ _ r⟩
  | xd ds => obtain ⟨xs, e, r⟩ := h; exact ⟨xs, e, RpF.mono g.sub.exz n _ _ r⟩
/-- the address where a node stands is taken -/
theorem ndok_ne {K : PySem.W.Frag} {F H : Hp} {a : Addr} {x : Nd} (h : NdOk K F H a x) : H a ≠ none := by
  cases x with
  | lst ds => obtain ⟨xs, e, r⟩ := h; rw [e]; exact fun q => by cases q
  | dic ds => obtain ⟨xs, e, r⟩ := h; rw [e]; exact fun q => by cases q
  | dit ds => obtain ⟨xs, e, r⟩ := h; rw [e]; exact fun q => by cases q
  | ldic o xs ds => obtain ⟨e, r⟩ := h; rw [e]; exact fun q => by cases q
  | ins C ds => obtain ⟨dx, xs, e, r⟩ := h; rw [e]; exact fun q => by cases q
  | xd ds => obtain ⟨xs, e, r⟩ := h; rw [e]; exact fun q => by cases q
theorem ndok_at {K : PySem.W.Frag} {F H H' : Hp} {a : Addr} {x : Nd} (e : H' a = H a) (h : NdOk K F H a x) : NdOk K F H' a x := by
  cases x with
  | lst ds => obtain ⟨xs, q, r⟩ := h; exact ⟨xs, e.trans q, r⟩
  | dic ds => obtain ⟨xs, q, r⟩ := h; exact ⟨xs, e.trans q, r⟩
  | dit ds => obtain ⟨xs, q, r⟩ := h; exact ⟨xs, e.trans q, r⟩
  | ldic o xs ds => obtain ⟨q, r⟩ := h; exact ⟨e.trans q, r⟩
  | ins C ds => obtain ⟨dx, xs, q, r⟩ := h; exact ⟨dx, xs, e.trans q, r⟩
  | xd ds => obtain ⟨xs, q, r⟩ := h; exact ⟨xs, e.trans q, r⟩
section
variable {K : PySem.W.Frag} {B F F' F0 : Hp} {ro : List (Option W)} {ka : Cells} {ta : List (V × W)} {sg : L2.St} {H : Hp}
/-- a new object is laid as frozen data -/
theorem EnF.lay (e : EnF K B F ro ka ta sg H) {p : Addr} {o : HO} (hp : H p = none) (hn : isfz o = false) : EnF K B (upd F p o) ro ka ta sg (upd H p o) ∧ Gr B F (upd F p o) := by
  have fp : F p = none := e.fz.free hp
  have bp : B p = none := e.fr.free hp
  have g : Gr B F (upd F p o) := ⟨Sub.new fp, fun a h1 h2 => by
    have ne : a ≠ p := fun q => h2 (q ▸ bp)
    rw [upd_ne ne]
    exact h1⟩
  refine ⟨⟨fun a u h => ?_, fun a u h => ?_, fun a u h => ?_, e.nd, fun q hq => ?_, e.ln, fun i w h => ?_, fun q hq => wok_gr e.nz g (e.tm q hq)⟩, g⟩
  · by_cases ha : a = p
    · subst ha; rw [upd_same] at h; cases h; exact hn
    · rw [upd_ne ha] at h; exact e.nz a u h
  · by_cases ha : a = p
    · subst ha; rw [upd_same] at h; cases h; exact .inl upd_same
    · rw [upd_ne ha] at h; exact e.fz.sub (Sub.new hp) a u h
  · have ha : a ≠ p := ne_of_none h bp
    rw [upd_ne ha]; exact e.fr a u h
  · obtain ⟨h1, h2, h3⟩ := e.ce q hq
    have nq : q.1 ≠ p := fun z => ndok_ne h3 (z ▸ hp)
    refine ⟨by rw [upd_ne nq]; exact h1, h2, ndok_at (upd_ne nq) (ndok_gr e.nz g h3)⟩
  · obtain ⟨v, h1, h2⟩ := e.sl i w h
    exact ⟨v, h1, wok_gr e.nz g h2⟩
/-- a new object is laid as a cell -/
theorem EnF.cell (e : EnF K B F ro ka ta sg H) {p : Addr} {o : HO} (hp : H p = none) {n : Nd} (hn : NdOk K F (upd H p o) p n) : EnF K B F ro (ka ++ [(p, n)]) ta sg (upd H p o) := by
  refine ⟨e.nz, e.fz.sub (Sub.new hp), e.fr.trans (Sub.new hp), ?_, fun q hq => ?_, e.ln, e.sl, e.tm⟩
  · rw [List.map_append, List.nodup_append]
    refine ⟨e.nd, by simp, fun a ha b hb => ?_⟩
    obtain ⟨q, hq, rfl⟩ := List.mem_map.mp ha
    simp at hb
    subst hb
    exact fun z => ndok_ne (e.ce q hq).2.2 (z ▸ hp)
  · rcases List.mem_append.mp hq with hq | hq
    · obtain ⟨h1, h2, h3⟩ := e.ce q hq
      have nq : q.1 ≠ p := fun z => ndok_ne h3 (z ▸ hp)
      exact ⟨h1, h2, ndok_at (upd_ne nq) h3⟩
    · simp at hq
      subst hq
      exact ⟨e.fz.free hp, e.fr.free hp, hn⟩
theorem EnF.push (e : EnF K B F ro ka ta sg H) {v : V} {w : W} (h : WOk K B F v w) : EnF K B F ro ka ((v, w) :: ta) sg H :=
  ⟨e.nz, e.fz, e.fr, e.nd, e.ce, e.ln, e.sl, fun p hp => (List.mem_cons.mp hp).elim (fun z => z ▸ h) (e.tm p)⟩
theorem EnF.held (e : EnF K B F ro ka ta sg H) {ta' : List (V × W)} (h : ∀ p ∈ ta', p ∈ ta) : EnF K B F ro ka ta' sg H :=
  ⟨e.nz, e.fz, e.fr, e.nd, e.ce, e.ln, e.sl, fun p hp => e.tm p (h p hp)⟩
/-- a slot is set -/
theorem EnF.set (e : EnF K B F ro ka ta sg H) {v : V} {w : W} (h : WOk K B F v w) (i : Nat) : EnF K B F (ro.set i (some w)) ka ta (sg.set i (some v)) H := by
  refine ⟨e.nz, e.fz, e.fr, e.nd, e.ce, by rw [List.length_set, List.length_set, e.ln], fun j w' hj => ?_, e.tm⟩
  by_cases hij : i = j
  · subst hij
    have hi : i < ro.length := by
      have := (List.getElem?_eq_some_iff.mp hj).1
      rwa [List.length_set] at this
    rw [List.getElem?_set_self hi] at hj
    cases hj
    exact ⟨v, by rw [List.getElem?_set_self (by rw [e.ln]; exact hi)], h⟩
  · rw [List.getElem?_set_ne hij] at hj ⊢
    exact e.sl j w' hj
/-- slots are forgotten -/
theorem EnF.forget (e : EnF K B F ro ka ta sg H) {ro' : List (Option W)} (hl : ro'.length = ro.length) (h : ∀ (i : Nat) w, ro'[i]? = some (some w) → ro[i]? = some (some w)) : EnF K B F ro' ka ta sg H :=
  ⟨e.nz, e.fz, e.fr, e.nd, e.ce, e.ln.trans hl.symm, fun i w q => e.sl i w (h i w q), e.tm⟩
/-- another frame: its slots -/
theorem EnF.frame (e : EnF K B F ro ka ta sg H) {ro' : List (Option W)} {sg' : L2.St} (hl : sg'.length = ro'.length) (h : ∀ (i : Nat) w, ro'[i]? = some (some w) → ∃ v, sg'[i]? = some (some v) ∧ WOk K B F v w) : EnF K B F ro' ka ta sg' H :=
  ⟨e.nz, e.fz, e.fr, e.nd, e.ce, hl, h, e.tm⟩
/-- cells in another order, some forgotten -/
theorem EnF.cells (e : EnF K B F ro ka ta sg H) {ka' : Cells} (hs : ka'.Sublist ka) : EnF K B F ro ka' ta sg H :=
  ⟨e.nz, e.fz, e.fr, (hs.map _).nodup e.nd, fun p hp => e.ce p (hs.subset hp), e.ln, e.sl, e.tm⟩
theorem EnF.perm (e : EnF K B F ro ka ta sg H) {ka' : Cells} (hs : ka'.Perm ka) : EnF K B F ro ka' ta sg H :=
  ⟨e.nz, e.fz, e.fr, (hs.map _).nodup_iff.mpr e.nd, fun p hp => e.ce p (hs.subset hp), e.ln, e.sl, e.tm⟩
/-- a cell is written -/
theorem EnF.write (e : EnF K B F ro ka ta sg H) {j : Nat} {p : Addr} {n n' : Nd} {o : HO} (hj : ka[j]? = some (p, n)) (hn : NdOk K F (upd H p o) p n') : EnF K B F ro (ka.set j (p, n')) ta sg (upd H p o) := by
  have hjl := (List.getElem?_eq_some_iff.mp hj).1
  have hm : (p, n) ∈ ka := List.mem_of_getElem? hj
  obtain ⟨fp, bp, _⟩ := e.ce _ hm
  have em : (ka.set j (p, n')).map (·.1) = ka.map (·.1) := by
    apply List.ext_getElem?
    intro i
    rw [List.getElem?_map, List.getElem?_map]
    by_cases hij : j = i
    · subst hij
      rw [List.getElem?_set_self hjl, hj]
      rfl
    · rw [List.getElem?_set_ne hij]
  refine ⟨e.nz, fun a u h => ?_, fun a u h => ?_, by rw [em]; exact e.nd, fun q hq => ?_, e.ln, e.sl, e.tm⟩
  · have ha : a ≠ p := ne_of_none h fp
    rcases e.fz a u h with q | ⟨k, ob, q⟩
    · exact .inl (by rw [upd_ne ha]; exact q)
    · exact .inr ⟨k, ob, by rw [upd_ne ha]; exact q⟩
  · have ha : a ≠ p := ne_of_none h bp
    rw [upd_ne ha]
    exact e.fr a u h
  · obtain ⟨i, hi⟩ := List.getElem?_of_mem hq
    by_cases hij : j = i
    · subst hij
      rw [List.getElem?_set_self hjl] at hi
      cases hi
      exact ⟨fp, bp, hn⟩
    · rw [List.getElem?_set_ne hij] at hi
      obtain ⟨h1, h2, h3⟩ := e.ce q (List.mem_of_getElem? hi)
      have nq : q.1 ≠ p := fun z => by
        have h4 : (ka.map (·.1))[i]? = some p := by rw [List.getElem?_map, hi]; simp [z]
        have h5 : (ka.map (·.1))[j]? = some p := by rw [List.getElem?_map, hj]; rfl
        obtain ⟨l1, e1⟩ := List.getElem?_eq_some_iff.mp h4
        obtain ⟨l2, e2⟩ := List.getElem?_eq_some_iff.mp h5
        exact hij ((List.getElem_inj e.nd).mp (e2.trans e1.symm))
      exact ⟨h1, h2, ndok_at (upd_ne nq) h3⟩
end
end DL

/-! DB: what expressions evaluate to, by data (own work). -/
namespace DL
open PySem L2

/-! ### judgements -/
section
variable (K : PySem.W.Frag)
abbrev Ro := List (Option W)
def EvD (te : TE) (ro : Ro) (ka : Cells) (w : W) (ka' : Cells) : Prop := ∀ B F0 ta sg H (Q : VK), En K B F0 ro ka ta sg H → (∀ v H', En K B F0 ro ka' ((v, w) :: ta) sg H' → Q v H') → te sg H Q
/-- a new cell -/
def EvN (te : TE) (ro : Ro) (ka : Cells) (n : Nd) (ka' : Cells) : Prop := ∀ B F0 ta sg H (Q : VK), En K B F0 ro ka ta sg H → (∀ a H', En K B F0 ro (ka' ++ [(a, n)]) ta sg H' → Q (.ref a) H') → te sg H Q
def EvT (tt : TT) (ro : Ro) (ka : Cells) (b : Bool) (ka' : Cells) : Prop := ∀ B F0 ta sg H (Q : Bool → Hp → Prop), En K B F0 ro ka ta sg H → (∀ H', En K B F0 ro ka' ta sg H' → Q b H') → tt sg H Q
def EvA (tr : TA) (ro : Ro) (ka : Cells) (ws : List W) (ka' : Cells) : Prop := ∀ B F0 ta sg H (Q : List V → Hp → Prop), En K B F0 ro ka ta sg H → (∀ vs H', vs.length = ws.length → En K B F0 ro ka' (vs.zip ws ++ ta) sg H' → Q vs H') → tr sg H Q
/-- a two-place operation, a one-place one -/
def RvD (r : R2) (ka : Cells) (x y z : W) : Prop := ∀ B F0 ro ta sg H u v (Q : VK), En K B F0 ro ka ta sg H → (u, x) ∈ ta → (v, y) ∈ ta → (∀ t H', En K B F0 ro ka ((t, z) :: ta) sg H' → Q t H') → r u v H Q
def RvN (r : R2) (ka : Cells) (x y : W) (n : Nd) : Prop := ∀ B F0 ro ta sg H u v (Q : VK), En K B F0 ro ka ta sg H → (u, x) ∈ ta → (v, y) ∈ ta → (∀ a H', En K B F0 ro (ka ++ [(a, n)]) ta sg H' → Q (.ref a) H') → r u v H Q
def RuD (r : V → Hp → VK → Prop) (ka : Cells) (x z : W) : Prop := ∀ B F0 ro ta sg H u (Q : VK), En K B F0 ro ka ta sg H → (u, x) ∈ ta → (∀ t H', En K B F0 ro ka ((t, z) :: ta) sg H' → Q t H') → r u H Q
/-- a call by values -/
def RcD (r : List V → Hp → VK → Prop) (ka : Cells) (xs : List W) (z : W) : Prop := ∀ B F0 ro ta sg H us (Q : VK), En K B F0 ro ka ta sg H → us.length = xs.length → (∀ p ∈ us.zip xs, p ∈ ta) → (∀ t H', En K B F0 ro ka ((t, z) :: ta) sg H' → Q t H') → r us H Q
def RcN (r : List V → Hp → VK → Prop) (ka : Cells) (xs : List W) (n : Nd) : Prop := ∀ B F0 ro ta sg H us (Q : VK), En K B F0 ro ka ta sg H → us.length = xs.length → (∀ p ∈ us.zip xs, p ∈ ta) → (∀ a H', En K B F0 ro (ka ++ [(a, n)]) ta sg H' → Q (.ref a) H') → r us H Q
/-- a part of a slice -/
def EvO (to : TO) (ro : Ro) (ka : Cells) (o : Option Int) (ka' : Cells) : Prop := ∀ B F0 ta sg H (Q : Option Int → Hp → Prop), En K B F0 ro ka ta sg H → (∀ H', En K B F0 ro ka' ta sg H' → Q o H') → to sg H Q
end

section
variable {K : PySem.W.Frag} {B F0 : Hp} {ro : Ro} {ka k1 k2 k3 : Cells} {ta : List (V × W)} {sg : L2.St} {H : Hp} {te tf tg : TE} {tt tu : TT} {tr : TA} {w x y z : W} {n : Nd} {r : R2}
theorem En.held (e : En K B F0 ro ka ta sg H) {ta' : List (V × W)} (h : ∀ p ∈ ta', p ∈ ta) : En K B F0 ro ka ta' sg H :=
  let ⟨F, g, q⟩ := e
  ⟨F, g, q.held h⟩
theorem En.pop {p : V × W} (e : En K B F0 ro ka (p :: ta) sg H) : En K B F0 ro ka ta sg H := e.held fun _ h => List.mem_cons_of_mem _ h
/-- what data says of its value -/
theorem En.push_imm (e : En K B F0 ro ka ta sg H) {v : V} {w : W} (h : ∀ F, WOk K B F v w) : En K B F0 ro ka ((v, w) :: ta) sg H :=
  let ⟨F, g, q⟩ := e
  ⟨F, g, q.push (h F)⟩
theorem En.tm_int (e : En K B F0 ro ka ta sg H) {v : V} {i : Int} (h : (v, W.val (.int i)) ∈ ta) : v = .int i := let ⟨_, _, q⟩ := e; q.tm _ h
theorem En.tm_str (e : En K B F0 ro ka ta sg H) {v : V} {i : Str} (h : (v, W.val (.str i)) ∈ ta) : v = .str i := let ⟨_, _, q⟩ := e; q.tm _ h
theorem En.tm_bl (e : En K B F0 ro ka ta sg H) {v : V} {i : Bool} (h : (v, W.val (.bl i)) ∈ ta) : v = .bl i := let ⟨_, _, q⟩ := e; q.tm _ h
theorem En.tm_non (e : En K B F0 ro ka ta sg H) {v : V} (h : (v, W.val .non) ∈ ta) : v = .non := let ⟨_, _, q⟩ := e; q.tm _ h
theorem En.tm_adr (e : En K B F0 ro ka ta sg H) {v : V} {a : Addr} (h : (v, W.val (.adr a)) ∈ ta) : v = .ref a := let ⟨_, _, q⟩ := e; q.tm _ h
theorem En.tm_ty (e : En K B F0 ro ka ta sg H) {v : V} {i : String} (h : (v, W.val (.ty i)) ∈ ta) : v = .ty i := let ⟨_, _, q⟩ := e; q.tm _ h

/-- data that is the value itself -/
def imm : D → Bool
  | .non => true | .bl _ => true | .int _ => true | .str _ => true | .ty _ => true | .adr _ => true
  | _ => false
theorem imm_any {F G : Hp} : ∀ {d : D} {v : V}, imm d = true → Rp K F d v → Rp K G d v
  | .non, _, _, h => h
  | .bl _, _, _, h => h
  | .int _, _, _, h => h
  | .str _, _, _, h => h
  | .ty _, _, _, h => h
  | .adr _, _, _, h => h
/-- a part of something viewed, of something frozen -/
def part (b : Bool) (d : D) : W := if b && !imm d then .vw d else .val d
theorem wok_part {B F : Hp} {v : V} {d : D} (b : Bool) (h : Rp K (if b then uni B F else F) d v) : WOk K B F v (part b d) := by
  unfold part
  cases b with
  | false => exact h
  | true =>
    cases q : imm d with
    | true => exact imm_any q h
    | false => exact h
theorem part_f (d : D) : part false d = .val d := rfl

/-! ### names, constants -/
theorem ev_var {i : Nat} (h : ro[i]? = some (some w)) : EvD K (tVar i) ro ka w ka := fun B F0 ta sg H Q e q => by
  obtain ⟨F, g, e⟩ := e
  obtain ⟨v, h1, h2⟩ := e.sl i w h
  exact ⟨v, h1, q v H ⟨F, g, e.push h2⟩⟩
theorem ev_int {i : Int} : EvD K (tC (.int i)) ro ka (.val (.int i)) ka := fun B F0 ta sg H Q e q => q _ _ (e.push_imm fun _ => rfl)
theorem ev_str {i : Str} : EvD K (tC (.str i)) ro ka (.val (.str i)) ka := fun B F0 ta sg H Q e q => q _ _ (e.push_imm fun _ => rfl)
theorem ev_bl {i : Bool} : EvD K (tC (.bl i)) ro ka (.val (.bl i)) ka := fun B F0 ta sg H Q e q => q _ _ (e.push_imm fun _ => rfl)
theorem ev_non : EvD K (tC .non) ro ka (.val .non) ka := fun B F0 ta sg H Q e q => q _ _ (e.push_imm fun _ => rfl)
theorem ev_ref {a : Addr} : EvD K (tC (.ref a)) ro ka (.val (.adr a)) ka := fun B F0 ta sg H Q e q => q _ _ (e.push_imm fun _ => rfl)
theorem ev_ty {a : String} : EvD K (tC (.ty a)) ro ka (.val (.ty a)) ka := fun B F0 ta sg H Q e q => q _ _ (e.push_imm fun _ => rfl)

/-! ### operations -/
theorem ev_op (ha : EvD K te ro ka x k1) (hb : EvD K tf ro k1 y k2) (hr : RvD K r k2 x y z) : EvD K (tOp r te tf) ro ka z k2 := fun B F0 ta sg H Q e q =>
  ha B F0 ta sg H _ e fun u H1 e1 => hb B F0 _ sg H1 _ e1 fun v H2 e2 => hr B F0 ro _ sg H2 u v Q e2 (List.mem_cons_of_mem _ List.mem_cons_self) List.mem_cons_self fun t H3 e3 =>
    q t H3 (e3.held fun p hp => by
      rcases List.mem_cons.mp hp with rfl | hp
      · exact List.mem_cons_self
      · exact List.mem_cons_of_mem _ (List.mem_cons_of_mem _ (List.mem_cons_of_mem _ hp)))
theorem evn_op (ha : EvD K te ro ka x k1) (hb : EvD K tf ro k1 y k2) (hr : RvN K r k2 x y n) : EvN K (tOp r te tf) ro ka n k2 := fun B F0 ta sg H Q e q =>
  ha B F0 ta sg H _ e fun u H1 e1 => hb B F0 _ sg H1 _ e1 fun v H2 e2 => hr B F0 ro _ sg H2 u v Q e2 (List.mem_cons_of_mem _ List.mem_cons_self) List.mem_cons_self fun t H3 e3 =>
    q t H3 (e3.held fun p hp => List.mem_cons_of_mem _ (List.mem_cons_of_mem _ hp))
theorem ev_un {r : V → Hp → VK → Prop} (ha : EvD K te ro ka x k1) (hr : RuD K r k1 x z) : EvD K (tUn r te) ro ka z k1 := fun B F0 ta sg H Q e q =>
  ha B F0 ta sg H _ e fun u H1 e1 => hr B F0 ro _ sg H1 u Q e1 List.mem_cons_self fun t H3 e3 => q t H3 (e3.held fun p hp => by
      rcases List.mem_cons.mp hp with rfl | hp
      · exact List.mem_cons_self
      · exact List.mem_cons_of_mem _ (List.mem_cons_of_mem _ hp))
theorem ea_nil : EvA K tNil ro ka [] ka := fun B F0 ta sg H Q e q => q [] H rfl e
theorem ea_cons (ha : EvD K te ro ka x k1) {ws : List W} (hr : EvA K tr ro k1 ws k2) : EvA K (tCons te tr) ro ka (x :: ws) k2 := fun B F0 ta sg H Q e q =>
  ha B F0 ta sg H _ e fun u H1 e1 => hr B F0 _ sg H1 _ e1 fun vs H2 hl e2 => q (u :: vs) H2 (by rw [List.length_cons, List.length_cons, hl]) (e2.held fun p hp => by
    have hp' : p ∈ (u, x) :: (vs.zip ws ++ ta) := hp
    rcases List.mem_cons.mp hp' with rfl | h
    · exact List.mem_append_right _ List.mem_cons_self
    · rcases List.mem_append.mp h with h | h
      · exact List.mem_append_left _ h
      · exact List.mem_append_right _ (List.mem_cons_of_mem _ h))
theorem ev_cb {r : List V → Hp → VK → Prop} {ws : List W} (ha : EvA K tr ro ka ws k1) (hr : RcD K r k1 ws z) : EvD K (tCB r tr) ro ka z k1 := fun B F0 ta sg H Q e q =>
  ha B F0 ta sg H _ e fun us H1 hl e1 => hr B F0 ro _ sg H1 us Q e1 hl (fun p hp => List.mem_append_left _ hp) fun t H2 e2 => q t H2 (e2.held fun p hp => by
    rcases List.mem_cons.mp hp with rfl | hp
    · exact List.mem_cons_self
    · exact List.mem_cons_of_mem _ (List.mem_append_right _ hp))
theorem evn_cb {r : List V → Hp → VK → Prop} {ws : List W} (ha : EvA K tr ro ka ws k1) (hr : RcN K r k1 ws n) : EvN K (tCB r tr) ro ka n k1 := fun B F0 ta sg H Q e q =>
  ha B F0 ta sg H _ e fun us H1 hl e1 => hr B F0 ro _ sg H1 us Q e1 hl (fun p hp => List.mem_append_left _ hp) fun t H2 e2 => q t H2 (e2.held fun p hp => List.mem_append_right _ hp)
/-- another of the ways of an operation -/
theorem rvd_l {r' : R2} (h : RvD K r ka x y z) : RvD K (fun x y H Q => r x y H Q ∨ r' x y H Q) ka x y z := fun B F0 ro ta sg H u v Q e h1 h2 q => .inl (h B F0 ro ta sg H u v Q e h1 h2 q)
theorem rvd_r {r' : R2} (h : RvD K r' ka x y z) : RvD K (fun x y H Q => r x y H Q ∨ r' x y H Q) ka x y z := fun B F0 ro ta sg H u v Q e h1 h2 q => .inr (h B F0 ro ta sg H u v Q e h1 h2 q)
theorem rvn_l {r' : R2} (h : RvN K r ka x y n) : RvN K (fun x y H Q => r x y H Q ∨ r' x y H Q) ka x y n := fun B F0 ro ta sg H u v Q e h1 h2 q => .inl (h B F0 ro ta sg H u v Q e h1 h2 q)
theorem rvn_r {r' : R2} (h : RvN K r' ka x y n) : RvN K (fun x y H Q => r x y H Q ∨ r' x y H Q) ka x y n := fun B F0 ro ta sg H u v Q e h1 h2 q => .inr (h B F0 ro ta sg H u v Q e h1 h2 q)
theorem rcd_l {r r' : List V → Hp → VK → Prop} {xs : List W} (h : RcD K r ka xs z) : RcD K (fun x H Q => r x H Q ∨ r' x H Q) ka xs z := fun B F0 ro ta sg H u Q e h1 h2 q => .inl (h B F0 ro ta sg H u Q e h1 h2 q)
theorem rcd_r {r r' : List V → Hp → VK → Prop} {xs : List W} (h : RcD K r' ka xs z) : RcD K (fun x H Q => r x H Q ∨ r' x H Q) ka xs z := fun B F0 ro ta sg H u Q e h1 h2 q => .inr (h B F0 ro ta sg H u Q e h1 h2 q)
theorem rcn_l {r r' : List V → Hp → VK → Prop} {xs : List W} (h : RcN K r ka xs n) : RcN K (fun x H Q => r x H Q ∨ r' x H Q) ka xs n := fun B F0 ro ta sg H u Q e h1 h2 q => .inl (h B F0 ro ta sg H u Q e h1 h2 q)
theorem rcn_r {r r' : List V → Hp → VK → Prop} {xs : List W} (h : RcN K r' ka xs n) : RcN K (fun x H Q => r x H Q ∨ r' x H Q) ka xs n := fun B F0 ro ta sg H u Q e h1 h2 q => .inr (h B F0 ro ta sg H u Q e h1 h2 q)

/-! ### a new cell, frozen -/
theorem En.freeze_l (e : En K B F0 ro (ka ++ [(a, .lst ds)]) ta sg H) : En K B F0 ro ka ((.ref a, .val (.lst ds)) :: ta) sg H := by
  obtain ⟨F, g, e⟩ := e
  obtain ⟨fa, ba, xs, ha, rl⟩ := e.ce (a, .lst ds) (by simp)
  have gg : Gr B F (upd F a (.lst xs)) := ⟨Sub.new fa, fun b h1 h2 => by
    have ne : b ≠ a := fun q => h2 (q ▸ ba)
    rw [upd_ne ne]
    exact h1⟩
  have nd2 := e.nd
  rw [List.map_append, List.nodup_append] at nd2
  refine ⟨upd F a (.lst xs), g.trans gg, ⟨fun b u h => ?_, fun b u h => ?_, e.fr, nd2.1, fun q hq => ?_, e.ln, fun i w h => ?_, fun q hq => ?_⟩⟩
  · by_cases hb : b = a
    · subst hb; rw [upd_same] at h; cases h; rfl
    · rw [upd_ne hb] at h; exact e.nz b u h
  · by_cases hb : b = a
    · subst hb; rw [upd_same] at h; cases h; exact .inl ha
    · rw [upd_ne hb] at h; exact e.fz b u h
  · obtain ⟨h1, h2, h3⟩ := e.ce q (List.mem_append_left _ hq)
    have nq : q.1 ≠ a := fun z => nd2.2.2 q.1 (List.mem_map.mpr ⟨q, hq, rfl⟩) a (by simp) z
    exact ⟨by rw [upd_ne nq]; exact h1, h2, ndok_gr e.nz gg h3⟩
  · obtain ⟨v, h1, h2⟩ := e.sl i w h
    exact ⟨v, h1, wok_gr e.nz gg h2⟩
  · rcases List.mem_cons.mp hq with rfl | hq
    · exact ⟨a, xs, rfl, .inl upd_same, RpL.mono gg.sub.exz e.nz _ _ rl⟩
    · exact wok_gr e.nz gg (e.tm q hq)
theorem En.freeze_k (e : En K B F0 ro (ka ++ [(a, .dic ds)]) ta sg H) : En K B F0 ro ka ((.ref a, .val (.dic ds)) :: ta) sg H := by
  obtain ⟨F, g, e⟩ := e
  obtain ⟨fa, ba, xs, ha, rl⟩ := e.ce (a, .dic ds) (by simp)
  have gg : Gr B F (upd F a (.dK xs)) := ⟨Sub.new fa, fun b h1 h2 => by
    have ne : b ≠ a := fun q => h2 (q ▸ ba)
    rw [upd_ne ne]
    exact h1⟩
  have nd2 := e.nd
  rw [List.map_append, List.nodup_append] at nd2
  refine ⟨upd F a (.dK xs), g.trans gg, ⟨fun b u h => ?_, fun b u h => ?_, e.fr, nd2.1, fun q hq => ?_, e.ln, fun i w h => ?_, fun q hq => ?_⟩⟩
  · by_cases hb : b = a
    · subst hb; rw [upd_same] at h; cases h; rfl
    · rw [upd_ne hb] at h; exact e.nz b u h
  · by_cases hb : b = a
    · subst hb; rw [upd_same] at h; cases h; exact .inl ha
    · rw [upd_ne hb] at h; exact e.fz b u h
  · obtain ⟨h1, h2, h3⟩ := e.ce q (List.mem_append_left _ hq)
    have nq : q.1 ≠ a := fun z => nd2.2.2 q.1 (List.mem_map.mpr ⟨q, hq, rfl⟩) a (by simp) z
    exact ⟨by rw [upd_ne nq]; exact h1, h2, ndok_gr e.nz gg h3⟩
  · obtain ⟨v, h1, h2⟩ := e.sl i w h
    exact ⟨v, h1, wok_gr e.nz gg h2⟩
  · rcases List.mem_cons.mp hq with rfl | hq
    · exact ⟨a, xs, rfl, .inl upd_same, RpK.mono gg.sub.exz e.nz _ _ rl⟩
    · exact wok_gr e.nz gg (e.tm q hq)
theorem EvN.lst {ds : List D} (h : EvN K te ro ka (.lst ds) k1) : EvD K te ro ka (.val (.lst ds)) k1 := fun B F0 ta sg H Q e q => h B F0 ta sg H Q e fun a H1 e1 => q _ _ e1.freeze_l
theorem EvN.dic {ds : List (Key × D)} (h : EvN K te ro ka (.dic ds) k1) : EvD K te ro ka (.val (.dic ds)) k1 := fun B F0 ta sg H Q e q => h B F0 ta sg H Q e fun a H1 e1 => q _ _ e1.freeze_k

/-! ### tests -/
theorem et_test {b : Bool} (h : EvD K te ro ka (.val (.bl b)) k1) : EvT K (tTest te) ro ka b k1 := fun B F0 ta sg H Q e q => h B F0 ta sg H _ e fun v H1 e1 => ⟨b, e1.tm_bl List.mem_cons_self, q H1 e1.pop⟩
theorem et_B {b : Bool} (h : EvD K te ro ka (.val (.bl b)) k1) : EvT K (tB te) ro ka b k1 := fun B F0 ta sg H Q e q => h B F0 ta sg H _ e fun v H1 e1 => ⟨b, e1.tm_bl List.mem_cons_self, q H1 e1.pop⟩
theorem et_not {a : Bool} (h : EvT K tt ro ka a k1) : EvT K (tNot tt) ro ka (!a) k1 := fun B F0 ta sg H Q e q => h B F0 ta sg H _ e fun H1 e1 => q H1 e1
/-- and, or: k2 is reached in any case -/
theorem et_and {a b : Bool} (h1 : EvT K tt ro ka a k1) (h2 : a = true → EvT K tu ro k1 b k1) : EvT K (tAnd tt tu) ro ka (a && b) k1 := fun B F0 ta sg H Q e q => h1 B F0 ta sg H _ e fun H1 e1 => by
  cases a with
  | true => exact h2 rfl B F0 ta sg H1 Q e1 q
  | false => exact q H1 e1
theorem et_or {a b : Bool} (h1 : EvT K tt ro ka a k1) (h2 : a = false → EvT K tu ro k1 b k1) : EvT K (tOr tt tu) ro ka (a || b) k1 := fun B F0 ta sg H Q e q => h1 B F0 ta sg H _ e fun H1 e1 => by
  cases a with
  | true => exact q H1 e1
  | false => exact h2 rfl B F0 ta sg H1 Q e1 q
theorem et_and1 {b : Bool} (h1 : EvT K tt ro ka true k1) (h2 : EvT K tu ro k1 b k2) : EvT K (tAnd tt tu) ro ka b k2 := fun B F0 ta sg H Q e q => h1 B F0 ta sg H _ e fun H1 e1 => h2 B F0 ta sg H1 Q e1 q
theorem et_and0 (h1 : EvT K tt ro ka false k1) : EvT K (tAnd tt tu) ro ka false k1 := fun B F0 ta sg H Q e q => h1 B F0 ta sg H _ e fun H1 e1 => q H1 e1
theorem et_or0 {b : Bool} (h1 : EvT K tt ro ka false k1) (h2 : EvT K tu ro k1 b k2) : EvT K (tOr tt tu) ro ka b k2 := fun B F0 ta sg H Q e q => h1 B F0 ta sg H _ e fun H1 e1 => h2 B F0 ta sg H1 Q e1 q
theorem et_or1 (h1 : EvT K tt ro ka true k1) : EvT K (tOr tt tu) ro ka true k1 := fun B F0 ta sg H Q e q => h1 B F0 ta sg H _ e fun H1 e1 => q H1 e1
theorem EvT.to {a b : Bool} (h : EvT K tt ro ka a k1) (e : a = b) : EvT K tt ro ka b k1 := e ▸ h
theorem EvD.to {w' : W} (h : EvD K te ro ka w k1) (e : w = w') : EvD K te ro ka w' k1 := e ▸ h
theorem EvD.imm {d : D} (h : EvD K te ro ka (.vw d) k1) (i : imm d = true) : EvD K te ro ka (.val d) k1 := fun B F0 ta sg H Q e q => h B F0 ta sg H _ e fun v H1 e1 => q v H1 (by
  obtain ⟨F, g, e1⟩ := e1
  have h1 := e1.tm _ List.mem_cons_self
  exact ⟨F, g, (e1.held (ta' := ta) fun p hp => List.mem_cons_of_mem _ hp).push (imm_any i h1)⟩)
theorem EvD.vw {d : D} (h : EvD K te ro ka (.val d) k1) : EvD K te ro ka (.vw d) k1 := fun B F0 ta sg H Q e q => h B F0 ta sg H _ e fun v H1 e1 => q v H1 (by
  obtain ⟨F, g, e1⟩ := e1
  exact ⟨F, g, (e1.held (ta' := ta) fun p hp => List.mem_cons_of_mem _ hp).push (wok_vw e1.nz (e1.tm _ List.mem_cons_self))⟩)
theorem ev_andV {a b : Bool} (h1 : EvD K te ro ka (.val (.bl a)) k1) (h2 : a = true → EvD K tf ro k1 (.val (.bl b)) k1) : EvD K (tAndV te tf) ro ka (.val (.bl (a && b))) k1 := fun B F0 ta sg H Q e q => h1 B F0 ta sg H _ e fun v H1 e1 => ⟨a, e1.tm_bl List.mem_cons_self, by
  have hv := e1.tm_bl List.mem_cons_self
  cases a with
  | true => exact h2 rfl B F0 ta sg H1 Q e1.pop q
  | false => subst hv; exact q _ H1 e1⟩
theorem ev_orV {a b : Bool} (h1 : EvD K te ro ka (.val (.bl a)) k1) (h2 : a = false → EvD K tf ro k1 (.val (.bl b)) k1) : EvD K (tOrV te tf) ro ka (.val (.bl (a || b))) k1 := fun B F0 ta sg H Q e q => h1 B F0 ta sg H _ e fun v H1 e1 => ⟨a, e1.tm_bl List.mem_cons_self, by
  have hv := e1.tm_bl List.mem_cons_self
  cases a with
  | true => subst hv; exact q _ H1 e1
  | false => exact h2 rfl B F0 ta sg H1 Q e1.pop q⟩
theorem ev_andV1 (h1 : EvD K te ro ka (.val (.bl true)) k1) (h2 : EvD K tf ro k1 w k2) : EvD K (tAndV te tf) ro ka w k2 := fun B F0 ta sg H Q e q => h1 B F0 ta sg H _ e fun v H1 e1 => ⟨true, e1.tm_bl List.mem_cons_self, h2 B F0 ta sg H1 Q e1.pop q⟩
theorem ev_andV0 (h1 : EvD K te ro ka (.val (.bl false)) k1) : EvD K (tAndV te tf) ro ka (.val (.bl false)) k1 := fun B F0 ta sg H Q e q => h1 B F0 ta sg H _ e fun v H1 e1 => ⟨false, e1.tm_bl List.mem_cons_self, by
  have hv := e1.tm_bl List.mem_cons_self
  subst hv
  exact q _ H1 e1⟩
theorem ev_orV0 (h1 : EvD K te ro ka (.val (.bl false)) k1) (h2 : EvD K tf ro k1 w k2) : EvD K (tOrV te tf) ro ka w k2 := fun B F0 ta sg H Q e q => h1 B F0 ta sg H _ e fun v H1 e1 => ⟨false, e1.tm_bl List.mem_cons_self, h2 B F0 ta sg H1 Q e1.pop q⟩
theorem ev_orV1 (h1 : EvD K te ro ka (.val (.bl true)) k1) : EvD K (tOrV te tf) ro ka (.val (.bl true)) k1 := fun B F0 ta sg H Q e q => h1 B F0 ta sg H _ e fun v H1 e1 => ⟨true, e1.tm_bl List.mem_cons_self, by
  have hv := e1.tm_bl List.mem_cons_self
  subst hv
  exact q _ H1 e1⟩
theorem ev_notV {a : Bool} (h1 : EvD K te ro ka (.val (.bl a)) k1) : EvD K (tNotV te) ro ka (.val (.bl (!a))) k1 := fun B F0 ta sg H Q e q => h1 B F0 ta sg H _ e fun v H1 e1 => ⟨a, e1.tm_bl List.mem_cons_self, q _ _ (e1.pop.push_imm fun _ => rfl)⟩
theorem ev_ifT (h : EvT K tt ro ka true k1) (h1 : EvD K te ro k1 w k2) : EvD K (tIf tt te tf) ro ka w k2 := fun B F0 ta sg H Q e q => h B F0 ta sg H _ e fun H1 e1 => h1 B F0 ta sg H1 Q e1 q
theorem ev_ifF (h : EvT K tt ro ka false k1) (h1 : EvD K tf ro k1 w k2) : EvD K (tIf tt te tf) ro ka w k2 := fun B F0 ta sg H Q e q => h B F0 ta sg H _ e fun H1 e1 => h1 B F0 ta sg H1 Q e1 q
theorem ev_if {b : Bool} (h : EvT K tt ro ka b k1) (h1 : b = true → EvD K te ro k1 w k2) (h2 : b = false → EvD K tf ro k1 w k2) : EvD K (tIf tt te tf) ro ka w k2 := by
  cases b with
  | true => exact ev_ifT h (h1 rfl)
  | false => exact ev_ifF h (h2 rfl)

/-! ### slices' parts -/
theorem eo_none : EvO K tNoPart ro ka none ka := fun B F0 ta sg H Q e q => q H e
theorem eo_some {i : Int} (h : EvD K te ro ka (.val (.int i)) k1) : EvO K (tPart te) ro ka (some i) k1 := fun B F0 ta sg H Q e q => h B F0 ta sg H _ e fun v H1 e1 => ⟨i, e1.tm_int List.mem_cons_self, q H1 e1.pop⟩

/-! ### tuples, lists displayed -/
theorem rpl_of {B F : Hp} : ∀ {vs : List V} {ds : List D}, vs.length = ds.length → (∀ p ∈ vs.zip (ds.map W.val), WOk K B F p.1 p.2) → RpL K F ds vs
  | [], [], _, _ => rfl
  | [], _ :: _, h, _ => by cases h
  | _ :: _, [], h, _ => by cases h
  | v :: vs, d :: ds, hl, h => ⟨v, vs, rfl, h (v, .val d) List.mem_cons_self, rpl_of (by simpa using hl) fun p hp => h p (List.mem_cons_of_mem _ hp)⟩
theorem rpl_len {F : Hp} : ∀ {ds : List D} {vs : List V}, RpL K F ds vs → vs.length = ds.length
  | [], vs, h => by rw [show vs = [] from h]; rfl
  | d :: ds, vs, h => by
    obtain ⟨x, ys, rfl, _, h2⟩ := h
    rw [List.length_cons, List.length_cons, rpl_len h2]
theorem rpl_get {F : Hp} : ∀ {ds : List D} {vs : List V} {i : Nat} {d : D}, RpL K F ds vs → ds[i]? = some d → ∃ v, vs[i]? = some v ∧ Rp K F d v
  | [], _, _, _, _, e => by simp at e
  | d0 :: ds, vs, 0, d, h, e => by
    obtain ⟨x, ys, rfl, h1, _⟩ := h
    cases e
    exact ⟨x, rfl, h1⟩
  | d0 :: ds, vs, i + 1, d, h, e => by
    obtain ⟨x, ys, rfl, _, h2⟩ := h
    obtain ⟨v, q1, q2⟩ := rpl_get (i := i) (d := d) h2 (by simpa using e)
    exact ⟨v, by simpa using q1, q2⟩
theorem rpl_app {F : Hp} : ∀ {ds es : List D} {xs ys : List V}, RpL K F ds xs → RpL K F es ys → RpL K F (ds ++ es) (xs ++ ys)
  | [], es, xs, ys, h, h2 => by rw [show xs = [] from h]; exact h2
  | d :: ds, es, xs, ys, h, h2 => by
    obtain ⟨x, zs, rfl, h1, h3⟩ := h
    exact ⟨x, zs ++ ys, rfl, h1, rpl_app h3 h2⟩
theorem rpl_drop {F : Hp} : ∀ (n : Nat) {ds : List D} {xs : List V}, RpL K F ds xs → RpL K F (ds.drop n) (xs.drop n)
  | 0, _, _, h => h
  | n + 1, [], xs, h => by rw [show xs = [] from h]; rfl
  | n + 1, d :: ds, xs, h => by
    obtain ⟨x, ys, rfl, _, h2⟩ := h
    exact rpl_drop n h2
theorem rpl_take {F : Hp} : ∀ (n : Nat) {ds : List D} {xs : List V}, RpL K F ds xs → RpL K F (ds.take n) (xs.take n)
  | 0, _, _, _ => rfl
  | n + 1, [], xs, h => by rw [show xs = [] from h]; rfl
  | n + 1, d :: ds, xs, h => by
    obtain ⟨x, ys, rfl, h1, h2⟩ := h
    exact ⟨x, ys.take n, rfl, h1, rpl_take n h2⟩
theorem rpl_set {F : Hp} : ∀ {ds : List D} {xs : List V} (i : Nat) {d : D} {v : V}, RpL K F ds xs → Rp K F d v → RpL K F (ds.set i d) (xs.set i v)
  | [], xs, _, _, _, h, _ => by rw [show xs = [] from h]; rfl
  | d :: ds, xs, 0, _, _, h, q => by
    obtain ⟨x, ys, rfl, h1, h2⟩ := h
    exact ⟨_, ys, rfl, q, h2⟩
  | d :: ds, xs, i + 1, _, _, h, q => by
    obtain ⟨x, ys, rfl, h1, h2⟩ := h
    exact ⟨x, _, rfl, h1, rpl_set i h2 q⟩
theorem rpl_rev {F : Hp} : ∀ {ds : List D} {xs : List V}, RpL K F ds xs → RpL K F ds.reverse xs.reverse
  | [], xs, h => by rw [show xs = [] from h]; rfl
  | d :: ds, xs, h => by
    obtain ⟨x, ys, rfl, h1, h2⟩ := h
    rw [List.reverse_cons, List.reverse_cons]
    exact rpl_app (rpl_rev h2) ⟨x, [], rfl, h1, rfl⟩
theorem rpl_repl {F : Hp} {ds : List D} {xs : List V} (h : RpL K F ds xs) : ∀ n : Nat, RpL K F (List.replicate n ds).flatten (List.replicate n xs).flatten
  | 0 => rfl
  | n + 1 => by
    rw [List.replicate_succ, List.replicate_succ, List.flatten_cons, List.flatten_cons]
    exact rpl_app h (rpl_repl h n)
theorem ev_tup {ds : List D} (h : EvA K tr ro ka (ds.map W.val) k1) (hl : ds.length ≤ 100000 := by decide) : EvD K (tTup tr) ro ka (.val (.tup ds)) k1 := fun B F0 ta sg H Q e q => h B F0 ta sg H _ e fun vs H1 hvl e1 => by
  rw [List.length_map] at hvl
  refine ⟨Nat.le_trans (by rw [hvl]; exact hl) (by decide : 100000 ≤ sizeLine), fun p hp => q _ _ ?_⟩
  obtain ⟨F, g, e1⟩ := e1
  obtain ⟨e2, g2⟩ := e1.lay (o := .tup vs) hp rfl
  refine ⟨_, g.trans g2, (e2.held (ta' := ta) fun p hp => List.mem_append_right _ hp).push ⟨p, vs, rfl, .inl (.inl upd_same), ?_⟩⟩
  exact RpL.mono g2.sub.exz e1.nz _ _ (rpl_of hvl fun z hz => e1.tm z (List.mem_append_left _ hz))
theorem evn_lst {ds : List D} (h : EvA K tr ro ka (ds.map W.val) k1) (hl : ds.length ≤ 100000 := by decide) : EvN K (tLst tr) ro ka (.lst ds) k1 := fun B F0 ta sg H Q e q => h B F0 ta sg H _ e fun vs H1 hvl e1 => by
  rw [List.length_map] at hvl
  refine ⟨Nat.le_trans (by rw [hvl]; exact hl) (by decide : 100000 ≤ sizeLine), fun p hp => q _ _ ?_⟩
  obtain ⟨F, g, e1⟩ := e1
  refine ⟨F, g, (e1.cell (o := .lst vs) hp (n := .lst ds) ⟨vs, upd_same, rpl_of hvl fun z hz => e1.tm z (List.mem_append_left _ hz)⟩).held fun p hp => List.mem_append_right _ hp⟩
end
end DL

/-! DC: operations by data (own work). -/
namespace DL
open PySem L2

/-! ### universal operators: each of the ways that this text takes -/
abbrev rAddI : R2 := rI0 fun i j => .int (i + j)
abbrev rAddS : R2 := fun x y H Q => ∃ i j, x = .str i ∧ y = .str j ∧ i.length + j.length ≤ sizeLine ∧ Q (.str (i ++ j)) H
/-- list + list, locked or not -/
def rCatR : R2 := fun x y H Q => ∃ l b xs zs, x = .ref l ∧ y = .ref b ∧ Rd H l (.lst xs) ∧ Rd H b (.lst zs) ∧ xs.length + zs.length ≤ sizeLine ∧ ∀ p, H p = none → Q (.ref p) (upd H p (.lst (xs ++ zs)))
section
variable {X : Cx}
theorem op_catR : OpR X (binaryOp .Add) rCatR := fun pins s sg H x y v u Q I rx ry h => by
  obtain ⟨l, b, xs, zs, ex, ey, h1, h2, hz, q⟩ := h
  subst ex ey
  cases rx
  cases ry
  have ⟨_, us, _, r, e⟩ := h1.ok I.hok
  have ⟨_, ws, _, r2, e2⟩ := h2.ok I.hok
  have lens : us.length + ws.length ≤ sizeLine := by rw [← r.length, ← r2.length]; exact hz
  refine PySem.P.add_list e e2 ?_ (show us.toArray.size + ws.toArray.size ≤ _ by rw [us.size_toArray, ws.size_toArray]; exact lens)
  rw [List.append_toArray]
  exact ⟨.ref _, _, I.lnew (t' := s.toks) (r.append r2) (xs.length_append ▸ hz), rfl, q _ I.fresh⟩
def rAddU (K : PySem.W.Frag) : R2 := fun x y H Q => rAddI x y H Q ∨ (fun x y H Q => rAddS x y H Q ∨ (fun x y H Q => rCatR x y H Q ∨ rCatA K x y H Q) x y H Q) x y H Q
theorem op_addU : OpR X (binaryOp .Add) (rAddU X.K) := op_add.or (op_add_str.or (op_catR.or op_catA))
/-- s * n for texts -/
abbrev rSubI : R2 := rI0 fun i j => .int (i - j)
abbrev rMulI : R2 := rI CMulW fun i j => .int (i * j)
abbrev rPowI : R2 := rI CPow fun i j => .int (i ^ j.toNat)
abbrev rModI : R2 := rI (fun _ j => 0 < j) fun i j => .int (i % j)
abbrev rDivI : R2 := rI CDiv fun i j => .int (i / j)
abbrev rLtI : R2 := rI0 fun i j => .bl (decide (i < j))
abbrev rLeI : R2 := rI0 fun i j => .bl (decide (i ≤ j))
abbrev rGtI : R2 := rI0 fun i j => .bl (decide (j < i))
abbrev rGeI : R2 := rI0 fun i j => .bl (decide (j ≤ i))
end

section
variable {K : PySem.W.Frag} {B F0 : Hp} {ro : Ro} {ka k1 k2 k3 : Cells} {ta : List (V × W)} {sg : L2.St} {H : Hp} {te tf tg : TE} {tl th : TO} {tr : TA} {w x y z : W} {n : Nd} {r : R2}

/-! ### numbers -/
theorem rv_I0 {g : Int → Int → V} {i j : Int} {d : D} (h : ∀ F, Rp K F d (g i j)) : RvD K (rI0 g) ka (.val (.int i)) (.val (.int j)) (.val d) := fun B F0 ro ta sg H u v Q e h1 h2 q =>
  ⟨i, j, e.tm_int h1, e.tm_int h2, q _ _ (e.push_imm fun F => h F)⟩
theorem rv_I {C : Int → Int → Prop} {g : Int → Int → V} {i j : Int} {d : D} (c : C i j) (h : ∀ F, Rp K F d (g i j)) : RvD K (rI C g) ka (.val (.int i)) (.val (.int j)) (.val d) := fun B F0 ro ta sg H u v Q e h1 h2 q =>
  ⟨i, j, e.tm_int h1, e.tm_int h2, c, q _ _ (e.push_imm fun F => h F)⟩
theorem rv_addI {i j : Int} : RvD K (rAddU K) ka (.val (.int i)) (.val (.int j)) (.val (.int (i + j))) := rvd_l (rv_I0 fun _ => rfl)
theorem rv_addS {i j : Str} (h : i.length + j.length ≤ 100000) : RvD K (rAddU K) ka (.val (.str i)) (.val (.str j)) (.val (.str (i ++ j))) := rvd_r (rvd_l fun B F0 ro ta sg H u v Q e h1 h2 q =>
  ⟨i, j, e.tm_str h1, e.tm_str h2, Nat.le_trans h (by decide), q _ _ (e.push_imm fun F => rfl)⟩)
theorem rv_sub {i j : Int} : RvD K rSubI ka (.val (.int i)) (.val (.int j)) (.val (.int (i - j))) := rv_I0 fun _ => rfl
theorem rv_mul {i j : Int} (c : CMulW i j) : RvD K rMulI ka (.val (.int i)) (.val (.int j)) (.val (.int (i * j))) := rv_I c fun _ => rfl
theorem rv_pow {i j : Int} (c : CPow i j) : RvD K rPowI ka (.val (.int i)) (.val (.int j)) (.val (.int (i ^ j.toNat))) := rv_I c fun _ => rfl
theorem rv_mod {i j : Int} (c : 0 < j) : RvD K rModI ka (.val (.int i)) (.val (.int j)) (.val (.int (i % j))) := rv_I c fun _ => rfl
theorem rv_div {i j : Int} (c : CDiv i j) : RvD K rDivI ka (.val (.int i)) (.val (.int j)) (.val (.int (i / j))) := rv_I c fun _ => rfl
theorem rv_lt {i j : Int} : RvD K rLtI ka (.val (.int i)) (.val (.int j)) (.val (.bl (decide (i < j)))) := rv_I0 fun _ => rfl
theorem rv_le {i j : Int} : RvD K rLeI ka (.val (.int i)) (.val (.int j)) (.val (.bl (decide (i ≤ j)))) := rv_I0 fun _ => rfl
theorem rv_gt {i j : Int} : RvD K rGtI ka (.val (.int i)) (.val (.int j)) (.val (.bl (decide (j < i)))) := rv_I0 fun _ => rfl
theorem rv_ge {i j : Int} : RvD K rGeI ka (.val (.int i)) (.val (.int j)) (.val (.bl (decide (j ≤ i)))) := rv_I0 fun _ => rfl
theorem ru_neg {i : Int} : RuD K (rU fun i => .int (-i)) ka (.val (.int i)) (.val (.int (-i))) := fun B F0 ro ta sg H u Q e h1 q => ⟨i, e.tm_int h1, q _ _ (e.push_imm fun F => rfl)⟩

/-! ### sequences: what stands behind a value -/
/-- w is a sequence of ds: t: a tuple; b: viewed -/
inductive Lk (ka : Cells) : W → Bool → List D → Bool → Prop where
  | vl {ds} : Lk ka (.val (.lst ds)) false ds false
  | vt {ds} : Lk ka (.val (.tup ds)) true ds false
  | wl {ds} : Lk ka (.vw (.lst ds)) false ds true
  | wt {ds} : Lk ka (.vw (.tup ds)) true ds true
  | ce {a ds} (j : Nat) (h : ka[j]? = some (a, .lst ds)) : Lk ka (.val (.adr a)) false ds false
def SqB (K : PySem.W.Frag) (t : Bool) (H : Hp) (a : Addr) (xs : List V) : Prop := if t then SqT K H a xs else Rd H a (.lst xs)
theorem SqB.sq {t : Bool} {a : Addr} {xs : List V} (h : SqB K t H a xs) : SqL K H a xs ∨ SqT K H a xs := by
  cases t with
  | true => exact .inr h
  | false => exact .inl (.inl h)
/-- what a sequence's value is, its items over a heap G that H holds -/
theorem Lk.get {F : Hp} {t b : Bool} {ds : List D} {v : V} (l : Lk ka w t ds b) (e : EnF K B F ro ka ta sg H) (h : WOk K B F v w) :
    ∃ a xs, v = .ref a ∧ SqB K t H a xs ∧ RpL K (if b then uni B F else F) ds xs := by
  cases l with
  | vl =>
    obtain ⟨a, xs, rfl, h1, h2⟩ := h
    exact ⟨a, xs, rfl, e.fz.rd e.nz h1, h2⟩
  | vt =>
    obtain ⟨a, xs, rfl, h1, h2⟩ := h
    exact ⟨a, xs, rfl, sqT_mono e.fz e.nz h1, h2⟩
  | wl =>
    obtain ⟨a, xs, rfl, h1, h2⟩ := h
    exact ⟨a, xs, rfl, (uni_exz e.fz e.fr).rd (uni_nz e.nz) h1, h2⟩
  | wt =>
    obtain ⟨a, xs, rfl, h1, h2⟩ := h
    exact ⟨a, xs, rfl, sqT_mono (uni_exz e.fz e.fr) (uni_nz e.nz) h1, h2⟩
  | @ce a ds j hj =>
    obtain ⟨_, _, xs, h1, h2⟩ := e.ce _ (List.mem_of_getElem? hj)
    have hv : v = .ref a := h
    exact ⟨a, xs, hv, .inl h1, h2⟩
theorem Lk.at {F : Hp} {t b : Bool} {ds : List D} {v : V} (l : Lk ka w t ds b) (e : EnF K B F ro ka ta sg H) (h : WOk K B F v w) :
    ∃ a xs, v = .ref a ∧ (SqL K H a xs ∨ SqT K H a xs) ∧ RpL K (if b then uni B F else F) ds xs :=
  let ⟨a, xs, h1, h2, h3⟩ := l.get e h
  ⟨a, xs, h1, h2.sq, h3⟩

/-! ### len -/
/-- len: sequences, texts, dicts -/
def rLenU (K : PySem.W.Frag) : List V → Hp → VK → Prop := fun xs H Q => (fun xs H Q => ∃ p ys, xs = [.ref p] ∧ (SqL K H p ys ∨ SqT K H p ys) ∧ Q (.int ys.length) H) xs H Q ∨ (fun xs H Q => ∃ z, xs = [.str z] ∧ z.length ≤ sizeLine ∧ Q (.int z.length) H) xs H Q
theorem call_lenU {X : Cx} : CallR X (.builtin "len") (rLenU X.K) := call_len_seq.or call_len_str
theorem zip_one {us : List V} {x : W} (h : us.length = [x].length) (hm : ∀ p ∈ us.zip [x], p ∈ ta) : ∃ u, us = [u] ∧ (u, x) ∈ ta := by
  match us, h with
  | [u], _ => exact ⟨u, rfl, hm _ List.mem_cons_self⟩
theorem zip_two {us : List V} {x y : W} (h : us.length = [x, y].length) (hm : ∀ p ∈ us.zip [x, y], p ∈ ta) : ∃ u v, us = [u, v] ∧ (u, x) ∈ ta ∧ (v, y) ∈ ta := by
  match us, h with
  | [u, v], _ => exact ⟨u, v, rfl, hm _ List.mem_cons_self, hm _ (List.mem_cons_of_mem _ List.mem_cons_self)⟩
theorem rc_len {t b : Bool} {ds : List D} (l : Lk ka w t ds b) : RcD K (rLenU K) ka [w] (.val (.int ds.length)) := rcd_l fun B F0 ro ta sg H us Q e hl hm q => by
  obtain ⟨u, rfl, hu⟩ := zip_one hl hm
  obtain ⟨F, g, e⟩ := e
  obtain ⟨a, xs, rfl, h1, h2⟩ := l.at e (e.tm _ hu)
  refine ⟨a, xs, rfl, h1, ?_⟩
  rw [rpl_len h2]
  exact q _ _ ⟨F, g, e.push rfl⟩
theorem rc_lenS {s : Str} (h : s.length ≤ 100000) : RcD K (rLenU K) ka [.val (.str s)] (.val (.int s.length)) := rcd_r fun B F0 ro ta sg H us Q e hl hm q => by
  obtain ⟨u, rfl, hu⟩ := zip_one hl hm
  have hv := e.tm_str hu
  subst hv
  exact ⟨s, rfl, Nat.le_trans h (by decide), q _ _ (e.push_imm fun _ => rfl)⟩

/-! ### items -/
theorem atI_map {α β : Type} {f : α → β → Prop} {xs : List α} {ys : List β} (hl : xs.length = ys.length) {i : Int} {y : β} (h : atI ys i = some y) (hf : ∀ (j : Nat) y, ys[j]? = some y → ∃ x, xs[j]? = some x ∧ f x y) : ∃ x, atI xs i = some x ∧ f x y := by
  unfold atI at h ⊢
  rw [hl]
  cases q : ixN ys.length i with
  | none => rw [q] at h; cases h
  | some j =>
    rw [q] at h
    exact hf j y h
theorem rv_ix {t b : Bool} {ds : List D} {i : Int} {d : D} (l : Lk ka w t ds b) (hd : atI ds i = some d) : RvD K (rIx K) ka w (.val (.int i)) (part b d) := fun B F0 ro ta sg H u v Q e h1 h2 q => by
  have hv := e.tm_int h2
  subst hv
  obtain ⟨F, g, e⟩ := e
  obtain ⟨a, xs, rfl, s1, s2⟩ := l.at e (e.tm _ h1)
  obtain ⟨z, hz, rz⟩ := atI_map (f := fun x d => Rp K (if b then uni B F else F) d x) (rpl_len s2) hd fun j y hy => rpl_get s2 hy
  have fin := q z H ⟨F, g, e.push (wok_part b rz)⟩
  rcases s1 with s1 | s1
  · exact .inl ⟨a, xs, i, z, rfl, rfl, s1, hz, fin⟩
  · exact .inr (.inl ⟨a, xs, i, z, rfl, rfl, s1, hz, fin⟩)
theorem rv_ixS {s : Str} {i : Int} {c : Nat} (hs : s.length ≤ 100000) (hc : atI s.cps.toList i = some c) : RvD K (rIx K) ka (.val (.str s)) (.val (.int i)) (.val (.str ⟨#[c]⟩)) := fun B F0 ro ta sg H u v Q e h1 h2 q =>
  .inr (.inr ⟨s, i, c, e.tm_str h1, e.tm_int h2, Nat.le_trans hs (by decide), hc, q _ _ (e.push_imm fun _ => rfl)⟩)

/-! ### slices -/
abbrev rSlU (K : PySem.W.Frag) : V → Option Int → Option Int → Hp → VK → Prop := fun x lo hi H Q => rSlL K x lo hi H Q ∨ (fun x lo hi H Q => rSlA K x lo hi H Q ∨ rSlS x lo hi H Q) x lo hi H Q
theorem sl_U {X : Cx} : SlR X (rSlU X.K) := sl_list.or (sl_tupA.or sl_str)
def cutD {α : Type} (xs : List α) (lo hi : Option Int) : List α := (xs.drop (HT.sIx xs.length 0 lo)).take (HT.sIx xs.length xs.length hi - HT.sIx xs.length 0 lo)
theorem rpl_cut {F : Hp} {ds : List D} {xs : List V} (h : RpL K F ds xs) (lo hi : Option Int) : RpL K F (cutD ds lo hi) (cutV xs lo hi) := by
  unfold cutD cutV
  rw [rpl_len h]
  exact rpl_take _ (rpl_drop _ h)
theorem evn_sl {lo hi : Option Int} {ds : List D} (ha : EvD K te ro ka w k1) (h1 : EvO K tl ro k1 lo k2) (h2 : EvO K th ro k2 hi k3) (l : Lk k3 w false ds false) : EvN K (tSl (rSlU K) te tl th) ro ka (.lst (cutD ds lo hi)) k3 := fun B F0 ta sg H Q e q =>
  ha B F0 ta sg H _ e fun u H1 e1 => h1 B F0 _ sg H1 _ e1 fun H2 e2 => h2 B F0 _ sg H2 _ e2 fun H3 e3 => by
    obtain ⟨F, g, e3⟩ := e3
    obtain ⟨a, xs, rfl, s1, s2⟩ := l.get e3 (e3.tm _ List.mem_cons_self)
    refine .inl ⟨a, xs, rfl, .inl s1, fun p hp => q p _ ?_⟩
    exact ⟨F, g, (e3.cell (o := .lst (cutV xs lo hi)) hp (n := .lst (cutD ds lo hi)) ⟨_, upd_same, rpl_cut s2 lo hi⟩).held fun p hp => List.mem_cons_of_mem _ hp⟩
theorem ev_slT {lo hi : Option Int} {ds : List D} (ha : EvD K te ro ka (.val (.tup ds)) k1) (h1 : EvO K tl ro k1 lo k2) (h2 : EvO K th ro k2 hi k3) : EvD K (tSl (rSlU K) te tl th) ro ka (.val (.tup (cutD ds lo hi))) k3 := fun B F0 ta sg H Q e q =>
  ha B F0 ta sg H _ e fun u H1 e1 => h1 B F0 _ sg H1 _ e1 fun H2 e2 => h2 B F0 _ sg H2 _ e2 fun H3 e3 => by
    obtain ⟨F, g, e3⟩ := e3
    obtain ⟨a, xs, rfl, s1, s2⟩ := Lk.vt.get e3 (e3.tm _ List.mem_cons_self)
    have hk := e3.tm _ List.mem_cons_self
    refine .inr (.inl ⟨a, xs, rfl, s1, fun hw => q _ _ ⟨F, g, (e3.held (ta' := ta) fun p hp => List.mem_cons_of_mem _ hp).push ?_⟩, fun _ p hp => q (.ref p) _ ?_⟩)
    · have e0 : cutD ds lo hi = ds := by
        unfold cutD
        rw [← rpl_len s2, hw.1, hw.2]
        simp
        exact List.take_of_length_le (by rw [rpl_len s2]; exact Nat.le_refl _)
      rw [e0]
      exact hk
    · obtain ⟨e4, g4⟩ := e3.lay (o := .tup (cutV xs lo hi)) hp rfl
      exact ⟨_, g.trans g4, (e4.held (ta' := ta) fun p hp => List.mem_cons_of_mem _ hp).push ⟨p, _, rfl, .inl (.inl upd_same), RpL.mono g4.sub.exz e3.nz _ _ (rpl_cut s2 lo hi)⟩⟩
theorem ev_slS {lo hi : Option Int} {s : Str} (ha : EvD K te ro ka (.val (.str s)) k1) (h1 : EvO K tl ro k1 lo k2) (h2 : EvO K th ro k2 hi k3) (hs : s.length ≤ 100000) : EvD K (tSl (rSlU K) te tl th) ro ka (.val (.str (cutS s lo hi))) k3 := fun B F0 ta sg H Q e q =>
  ha B F0 ta sg H _ e fun u H1 e1 => h1 B F0 _ sg H1 _ e1 fun H2 e2 => h2 B F0 _ sg H2 _ e2 fun H3 e3 =>
    .inr (.inr ⟨s, e3.tm_str List.mem_cons_self, Nat.le_trans hs (by decide), q _ _ (e3.pop.push_imm fun _ => rfl)⟩)

/-! ### list + list, tuple + tuple -/
theorem rvn_cat {b1 b2 : Bool} {ds es : List D} (l1 : Lk ka x false ds false) (l2 : Lk ka y false es false) (hz : ds.length + es.length ≤ 100000) : RvN K (rAddU K) ka x y (.lst (ds ++ es)) :=
  rvn_r (rvn_r (rvn_l fun B F0 ro ta sg H u v Q e h1 h2 q => by
    obtain ⟨F, g, e⟩ := e
    obtain ⟨a, xs, rfl, s1, r1⟩ := l1.get e (e.tm _ h1)
    obtain ⟨b, ys, rfl, s2, r2⟩ := l2.get e (e.tm _ h2)
    refine ⟨a, b, xs, ys, rfl, rfl, s1, s2, by rw [rpl_len r1, rpl_len r2]; exact Nat.le_trans hz (by decide), fun p hp => q p _ ?_⟩
    exact ⟨F, g, e.cell (o := .lst (xs ++ ys)) hp (n := .lst (ds ++ es)) ⟨_, upd_same, rpl_app r1 r2⟩⟩))
end
end DL

/-! DS: statements, loops, contracts by data (own work). -/
namespace DL
open PySem L2

section
variable (K : PySem.W.Frag)
/-- from such a state P holds -/
def Gp (B F0 : Hp) (ta : List (V × W)) (P : L2.St → Hp → Prop) (ro : Ro) (ka : Cells) : Prop := ∀ sg H, En K B F0 ro ka ta sg H → P sg H
/-- how a call ends: with data, or an exception of a class, its own fields -/
inductive Out where
  | ret (d : D) | exc (C : Addr) (fs : List (Str × D)) | exc0 (C : Addr)
abbrev Ct := List W → Cells → (Out → Cells → Prop) → Prop
/-- what is wanted at a return -/
def RtOk (B F0 : Hp) (out : Out → Cells → Prop) (rt : VK) : Prop := ∀ d ka v H, out (.ret d) ka → En K B F0 [] ka [(v, .val d)] [] H → rt v H
def RxOk (B F0 : Hp) (out : Out → Cells → Prop) (E : XK) : Prop :=
  (∀ C fs ka dx H, out (.exc C fs) ka → En K B F0 [] (ka ++ [(dx, .xd fs)]) [] [] H → E (.ref C) (some dx) H) ∧
  ∀ C ka H, out (.exc0 C) ka → En K B F0 [] ka [] [] H → E (.ref C) none H
/-- the promise of a contract -/
def spC (C : Ct) : Sp := fun vs H Q E => ∃ B F args ka out, C args ka out ∧ vs.length = args.length ∧ En K B F [] ka (vs.zip args) [] H ∧ RtOk K B F out Q ∧ RxOk K B F out E
end

section
variable {K : PySem.W.Frag} {B F0 : Hp} {ro : Ro} {ka k1 k2 k3 : Cells} {ta : List (V × W)} {sg : L2.St} {H : Hp} {te tf tg : TE} {tl th : TO} {tr : TA} {tt : TT} {w x y z : W} {n : Nd} {r : R2} {De : Ends} {t u : TS} {P : L2.St → Hp → Prop}
theorem En.gp (e : En K B F0 ro ka ta sg H) (h : Gp K B F0 ta P ro ka) : P sg H := h sg H e
theorem En.set (e : En K B F0 ro ka ((v, w) :: ta) sg H) (i : Nat) : En K B F0 (ro.set i (some w)) ka ta (sg.set i (some v)) H :=
  let ⟨F, g, q⟩ := e
  ⟨F, g, (q.set (q.tm _ List.mem_cons_self) i).held fun _ h => List.mem_cons_of_mem _ h⟩
theorem En.setA (e : En K B F0 ro ka ta sg H) (i : Nat) (a : Addr) : En K B F0 (ro.set i (some (.val (.adr a)))) ka ta (sg.set i (some (.ref a))) H :=
  let ⟨F, g, q⟩ := e
  ⟨F, g, q.set (w := .val (.adr a)) rfl i⟩
/-! ### plain statements -/
theorem g_seq (h : Gp K B F0 ta (t { De with nx := u De }) ro ka) : Gp K B F0 ta (tSeq t u De) ro ka := h
theorem g_next (h : Gp K B F0 ta De.nx ro ka) : Gp K B F0 ta (tNext De) ro ka := h
theorem g_brk (h : Gp K B F0 ta De.bk ro ka) : Gp K B F0 ta (tBreak De) ro ka := h
theorem g_cont (h : Gp K B F0 ta De.ct ro ka) : Gp K B F0 ta (tCont De) ro ka := h
theorem g_asg {i : Nat} (h : EvD K te ro ka w k1) (k : Gp K B F0 ta De.nx (ro.set i (some w)) k1) : Gp K B F0 ta (tAsg te (gName i) De) ro ka := fun sg H e => h B F0 ta sg H _ e fun v H1 e1 => k _ _ (e1.set i)
theorem g_asgN {i : Nat} (h : EvN K te ro ka n k1) (k : ∀ a, Gp K B F0 ta De.nx (ro.set i (some (.val (.adr a)))) (k1 ++ [(a, n)])) : Gp K B F0 ta (tAsg te (gName i) De) ro ka := fun sg H e => h B F0 ta sg H _ e fun a H1 e1 => k a _ _ (e1.setA i a)
theorem q_asg {i : Nat} (h : EvD K te ro ka w k1) (k : Gp K B F0 ta (u De) (ro.set i (some w)) k1) : Gp K B F0 ta (tSeq (tAsg te (gName i)) u De) ro ka := g_asg (De := { De with nx := u De }) h k
theorem q_asgN {i : Nat} (h : EvN K te ro ka n k1) (k : ∀ a, Gp K B F0 ta (u De) (ro.set i (some (.val (.adr a)))) (k1 ++ [(a, n)])) : Gp K B F0 ta (tSeq (tAsg te (gName i)) u De) ro ka := g_asgN (De := { De with nx := u De }) h k
theorem g_drop (h : EvD K te ro ka w k1) (k : Gp K B F0 ta De.nx ro k1) : Gp K B F0 ta (tDrop te De) ro ka := fun sg H e => h B F0 ta sg H _ e fun v H1 e1 => k _ _ e1.pop
theorem q_drop (h : EvD K te ro ka w k1) (k : Gp K B F0 ta (u De) ro k1) : Gp K B F0 ta (tSeq (tDrop te) u De) ro ka := g_drop (De := { De with nx := u De }) h k
theorem g_if {b : Bool} {u : TS} (h : EvT K tt ro ka b k1) (h1 : b = true → Gp K B F0 ta (t De) ro k1) (h2 : b = false → Gp K B F0 ta (u De) ro k1) : Gp K B F0 ta (tIfS tt t u De) ro ka := fun sg H e => h B F0 ta sg H _ e fun H1 e1 => by
  cases b with
  | true => exact h1 rfl _ _ e1
  | false => exact h2 rfl _ _ e1
theorem q_if {b : Bool} {t' : TS} (h : EvT K tt ro ka b k1) (h1 : b = true → Gp K B F0 ta (t { De with nx := u De }) ro k1) (h2 : b = false → Gp K B F0 ta (t' { De with nx := u De }) ro k1) : Gp K B F0 ta (tSeq (tIfS tt t t') u De) ro ka := g_if (De := { De with nx := u De }) h h1 h2
/-- an if without else -/
theorem q_when {b : Bool} (h : EvT K tt ro ka b k1) (h1 : b = true → Gp K B F0 ta (t { De with nx := u De }) ro k1) (h2 : b = false → Gp K B F0 ta (u De) ro k1) : Gp K B F0 ta (tSeq (tIfS tt t tNext) u De) ro ka := g_if (De := { De with nx := u De }) h h1 h2
theorem En.leave (e : En K B F0 ro ka ((v, w) :: ta) sg H) : En K B F0 [] ka [(v, w)] [] H :=
  let ⟨F, g, q⟩ := e
  ⟨F, g, (q.frame (ro' := []) (sg' := []) rfl fun i w h => by simp at h).held fun p hp => by
    have : p = (v, w) := by simpa using hp
    rw [this]
    exact List.mem_cons_self⟩
theorem g_ret {out : Out → Cells → Prop} {d : D} {De : Ends} (hr : RtOk K B F0 out De.rt) (h : EvD K te ro ka (.val d) k1) (o : out (.ret d) k1) : Gp K B F0 ta (tRet te De) ro ka := fun sg H e => h B F0 ta sg H _ e fun v H1 e1 => hr d k1 v H1 o e1.leave
theorem g_retN {out : Out → Cells → Prop} {De : Ends} (hr : RtOk K B F0 out De.rt) (o : out (.ret .non) ka) : Gp K B F0 ta (tRetN De) ro ka := fun sg H e => hr .non ka .non H o ((e.push_imm (v := .non) (w := .val .non) fun _ => rfl).leave)
/-- the body's end without a return -/
theorem g_end {out : Out → Cells → Prop} {Q : VK} (hr : RtOk K B F0 out Q) (o : out (.ret .non) ka) : Gp K B F0 ta (fun _ H' => Q .non H') ro ka := fun sg H e => hr .non ka .non H o ((e.push_imm (v := .non) (w := .val .non) fun _ => rfl).leave)
/-! ### cells changed -/
theorem EnF.rd_lst {F : Hp} (e : EnF K B F ro ka ta sg H) {j : Nat} {a : Addr} {ds : List D} (hj : ka[j]? = some (a, .lst ds)) : ∃ xs, H a = some (.lst xs) ∧ RpL K F ds xs := (e.ce _ (List.mem_of_getElem? hj)).2.2
theorem g_app {j0 j : Nat} {a : Addr} {ds0 ds : List D} {d : D} {De : Ends} (ho : EvD K te ro ka (.val (.adr a)) k1) (h0 : k1[j0]? = some (a, .lst ds0)) (he : EvD K tf ro k1 (.val d) k2) (hj : k2[j]? = some (a, .lst ds)) (hz : ds.length < 100000)
    (k : Gp K B F0 ta De.nx ro (k2.set j (a, .lst (ds ++ [d])))) : Gp K B F0 ta (tDrop (tBM K "list" rAppend te (tCons tf tNil)) De) ro ka := fun sg H e => ho B F0 ta sg H _ e fun u H1 e1 => by
  have hu := e1.tm_adr List.mem_cons_self
  subst hu
  refine ⟨?_, he B F0 _ sg H1 _ e1 fun v H2 e2 => ?_⟩
  · obtain ⟨F, g, e1⟩ := e1
    obtain ⟨xs, hx, _⟩ := e1.rd_lst h0
    exact .inl ⟨rfl, xs, .inl (.inl hx)⟩
  · obtain ⟨F, g, e2⟩ := e2
    obtain ⟨xs, hx, rx⟩ := e2.rd_lst hj
    have hv := e2.tm _ List.mem_cons_self
    refine ⟨a, xs, v, rfl, rfl, hx, by rw [rpl_len rx]; exact Nat.lt_of_lt_of_le hz (by decide), k _ _ ⟨F, g, ?_⟩⟩
    exact (e2.write (o := .lst (xs ++ [v])) (n' := .lst (ds ++ [d])) hj ⟨_, upd_same, rpl_app rx ⟨v, [], rfl, hv, rfl⟩⟩).held fun p hp => List.mem_cons_of_mem _ (List.mem_cons_of_mem _ hp)
theorem q_app {j0 j : Nat} {a : Addr} {ds0 ds : List D} {d : D} {De : Ends} (ho : EvD K te ro ka (.val (.adr a)) k1) (h0 : k1[j0]? = some (a, .lst ds0)) (he : EvD K tf ro k1 (.val d) k2) (hj : k2[j]? = some (a, .lst ds)) (hz : ds.length < 100000)
    (k : Gp K B F0 ta (u De) ro (k2.set j (a, .lst (ds ++ [d])))) : Gp K B F0 ta (tSeq (tDrop (tBM K "list" rAppend te (tCons tf tNil))) u De) ro ka := g_app (De := { De with nx := u De }) ho h0 he hj hz k
/-- xs[i] = v -/
theorem g_seti {j : Nat} {a : Addr} {ds : List D} {d : D} {i : Int} {ix : Nat} {De : Ends} (he : EvD K tf ro ka (.val d) k1) (ho : EvD K te ro k1 (.val (.adr a)) k2) (hi : EvD K tg ro k2 (.val (.int i)) k3) (hj : k3[j]? = some (a, .lst ds)) (hx : ixN ds.length i = some ix)
    (k : Gp K B F0 ta De.nx ro (k3.set j (a, .lst (ds.set ix d)))) : Gp K B F0 ta (tAsg tf (gSub te tg rSetL) De) ro ka := fun sg H e => he B F0 ta sg H _ e fun v H1 e1 => ho B F0 _ sg H1 _ e1 fun u H2 e2 => hi B F0 _ sg H2 _ e2 fun i' H3 e3 => by
  have hu := e3.tm_adr (List.mem_cons_of_mem _ List.mem_cons_self)
  have hi' := e3.tm_int List.mem_cons_self
  subst hu hi'
  obtain ⟨F, g, e3⟩ := e3
  obtain ⟨xs, hxs, rx⟩ := e3.rd_lst hj
  have hv := e3.tm (v, .val d) (List.mem_cons_of_mem _ (List.mem_cons_of_mem _ List.mem_cons_self))
  refine ⟨a, xs, i, ix, rfl, rfl, hxs, by rw [rpl_len rx]; exact hx, k _ _ ⟨F, g, ?_⟩⟩
  exact (e3.write (o := .lst (xs.set ix v)) (n' := .lst (ds.set ix d)) hj ⟨_, upd_same, rpl_set ix rx hv⟩).held fun p hp => List.mem_cons_of_mem _ (List.mem_cons_of_mem _ (List.mem_cons_of_mem _ hp))
theorem q_seti {j : Nat} {a : Addr} {ds : List D} {d : D} {i : Int} {ix : Nat} {De : Ends} (he : EvD K tf ro ka (.val d) k1) (ho : EvD K te ro k1 (.val (.adr a)) k2) (hi : EvD K tg ro k2 (.val (.int i)) k3) (hj : k3[j]? = some (a, .lst ds)) (hx : ixN ds.length i = some ix)
    (k : Gp K B F0 ta (u De) ro (k3.set j (a, .lst (ds.set ix d)))) : Gp K B F0 ta (tSeq (tAsg tf (gSub te tg rSetL)) u De) ro ka := g_seti (De := { De with nx := u De }) he ho hi hj hx k

/-! ### what is walked -/
/-- wi walks through the items ws, while C holds of the cells -/
def EvI (K : PySem.W.Frag) (wi : TI) (ro : Ro) (ka : Cells) (ws : List W) (C : Cells → Prop) (ka' : Cells) : Prop := ∀ B F0 ta sg H (R : It → Hp → Prop), En K B F0 ro ka ta sg H →
  (∀ J ta' H', (∀ p ∈ ta, p ∈ ta') → En K B F0 ro ka' ta' sg H' →
    (∀ i w ro2 ka2 ta2 sg2 H2, ws[i]? = some w → C ka2 → (∀ p ∈ ta', p ∈ ta2) → En K B F0 ro2 ka2 ta2 sg2 H2 → J.go i H2 ∧ ∀ x H3, J.yld i H2 x H3 → En K B F0 ro2 ka2 ((x, w) :: ta2) sg2 H3) →
    (∀ i ro2 ka2 ta2 sg2 H2, ws.length ≤ i → C ka2 → (∀ p ∈ ta', p ∈ ta2) → En K B F0 ro2 ka2 ta2 sg2 H2 → J.stop i H2) → R J H') → wi sg H R
/-- the word between two turns -/
def Jp (K : PySem.W.Frag) (B F0 : Hp) (ta : List (V × W)) (Inv : Ro → Cells → Prop) : L2.St → Hp → Prop := fun sg H => ∃ ro ka, Inv ro ka ∧ En K B F0 ro ka ta sg H
theorem g_jp {Inv : Ro → Cells → Prop} (h : Inv ro ka) : Gp K B F0 ta (Jp K B F0 ta Inv) ro ka := fun sg H e => ⟨ro, ka, h, e⟩
theorem g_for {wi : TI} {ws : List W} {C : Cells → Prop} {g : TG} {tb : TS} {De : Ends} (h : EvI K wi ro ka ws C k1) (Inv : Nat → Ro → Cells → Prop) (h0 : Inv 0 ro k1) (hC : ∀ i ro2 ka2, Inv i ro2 ka2 → C ka2)
    (hs : ∀ i w ro2 ka2, ws[i]? = some w → Inv i ro2 ka2 → ∀ ta', Gp K B F0 ta' (fun sg H => ∀ x, En K B F0 ro2 ka2 ((x, w) :: ta') sg H → g x sg H fun sg2 H2 => tb { De with nx := Jp K B F0 ta' (Inv (i + 1)), ct := Jp K B F0 ta' (Inv (i + 1)), bk := De.nx } sg2 H2) ro2 ka2)
    (hd : ∀ ro2 ka2 ta', Inv ws.length ro2 ka2 → (∀ p ∈ ta, p ∈ ta') → Gp K B F0 ta' De.nx ro2 ka2) : Gp K B F0 ta (tFor wi g tb De) ro ka := fun sg H e =>
  h B F0 ta sg H _ e fun J ta' H1 hta e1 hgo hst => by
    refine ⟨fun i m sg H => m = ws.length - i ∧ i ≤ ws.length ∧ Jp K B F0 ta' (Inv i) sg H, ⟨ws.length, by simp, Nat.zero_le _, ro, k1, h0, e1⟩, ?_⟩
    rintro i m sg2 H2 ⟨rfl, hi, ro2, ka2, inv, e2⟩
    by_cases hlt : i < ws.length
    · obtain ⟨g1, g2⟩ := hgo i ws[i] ro2 ka2 ta' sg2 H2 (List.getElem?_eq_getElem hlt) (hC i ro2 ka2 inv) (fun p hp => hp) e2
      refine .inr ⟨g1, Jp K B F0 ta' (Inv (i + 1)), fun sg' H' q => ⟨ws.length - (i + 1), by omega, rfl, hlt, q⟩, fun x H3 y => ?_⟩
      have e3 := g2 x H3 y
      exact hs i ws[i] ro2 ka2 (List.getElem?_eq_getElem hlt) inv ta' sg2 H3 e3.pop x e3
    · have ei : i = ws.length := by omega
      subst ei
      exact .inl ⟨hst _ ro2 ka2 ta' sg2 H2 (Nat.le_refl _) (hC _ ro2 ka2 inv) (fun p hp => hp) e2, hd ro2 ka2 ta' inv hta sg2 H2 e2⟩
/-- .. the target a name -/
theorem g_forn {wi : TI} {ws : List W} {C : Cells → Prop} {j : Nat} {tb : TS} {De : Ends} (h : EvI K wi ro ka ws C k1) (Inv : Nat → Ro → Cells → Prop) (h0 : Inv 0 ro k1) (hC : ∀ i ro2 ka2, Inv i ro2 ka2 → C ka2)
    (hs : ∀ i w ro2 ka2 ta', ws[i]? = some w → Inv i ro2 ka2 → Gp K B F0 ta' (tb { De with nx := Jp K B F0 ta' (Inv (i + 1)), ct := Jp K B F0 ta' (Inv (i + 1)), bk := De.nx }) (ro2.set j (some w)) ka2)
    (hd : ∀ ro2 ka2 ta', Inv ws.length ro2 ka2 → (∀ p ∈ ta, p ∈ ta') → Gp K B F0 ta' De.nx ro2 ka2) : Gp K B F0 ta (tFor wi (gName j) tb De) ro ka :=
  g_for h Inv h0 hC (fun i w ro2 ka2 hw inv ta' sg H e x ex => hs i w ro2 ka2 ta' hw inv _ _ (ex.set j)) hd
theorem q_forn {wi : TI} {ws : List W} {C : Cells → Prop} {j : Nat} {tb : TS} {De : Ends} (h : EvI K wi ro ka ws C k1) (Inv : Nat → Ro → Cells → Prop) (h0 : Inv 0 ro k1) (hC : ∀ i ro2 ka2, Inv i ro2 ka2 → C ka2)
    (hs : ∀ i w ro2 ka2 ta', ws[i]? = some w → Inv i ro2 ka2 → Gp K B F0 ta' (tb { De with nx := Jp K B F0 ta' (Inv (i + 1)), ct := Jp K B F0 ta' (Inv (i + 1)), bk := u De }) (ro2.set j (some w)) ka2)
    (hd : ∀ ro2 ka2 ta', Inv ws.length ro2 ka2 → (∀ p ∈ ta, p ∈ ta') → Gp K B F0 ta' (u De) ro2 ka2) : Gp K B F0 ta (tSeq (tFor wi (gName j) tb) u De) ro ka := g_forn (De := { De with nx := u De }) h Inv h0 hC hs hd
/-- while: a word and a number that falls -/
theorem g_while {tb : TS} {De : Ends} (Inv : Nat → Ro → Cells → Prop) (m0 : Nat) (h0 : Inv m0 ro ka)
    (hs : ∀ m ro2 ka2, Inv m ro2 ka2 → ∃ b k2, EvT K tt ro2 ka2 b k2 ∧ (b = true → Gp K B F0 ta (tb { De with nx := Jp K B F0 ta (fun r k => ∃ m', m' < m ∧ Inv m' r k), ct := Jp K B F0 ta (fun r k => ∃ m', m' < m ∧ Inv m' r k), bk := De.nx }) ro2 k2) ∧ (b = false → Gp K B F0 ta De.nx ro2 k2)) :
    Gp K B F0 ta (tWhile tt tb De) ro ka := fun sg H e => by
  refine ⟨fun m sg H => Jp K B F0 ta (Inv m) sg H, ⟨m0, ro, ka, h0, e⟩, fun m sg2 H2 ⟨ro2, ka2, inv, e2⟩ => ?_⟩
  obtain ⟨b, k2, ht, h1, h2⟩ := hs m ro2 ka2 inv
  refine ht B F0 ta sg2 H2 _ e2 fun H3 e3 => ?_
  cases b with
  | true => exact ⟨_, fun sg' H' ⟨r, k, ⟨m', hm, inv'⟩, e'⟩ => ⟨m', hm, r, k, inv', e'⟩, h1 rfl _ _ e3⟩
  | false => exact h2 rfl _ _ e3
theorem q_while {tb : TS} {De : Ends} (Inv : Nat → Ro → Cells → Prop) (m0 : Nat) (h0 : Inv m0 ro ka)
    (hs : ∀ m ro2 ka2, Inv m ro2 ka2 → ∃ b k2, EvT K tt ro2 ka2 b k2 ∧ (b = true → Gp K B F0 ta (tb { De with nx := Jp K B F0 ta (fun r k => ∃ m', m' < m ∧ Inv m' r k), ct := Jp K B F0 ta (fun r k => ∃ m', m' < m ∧ Inv m' r k), bk := u De }) ro2 k2) ∧ (b = false → Gp K B F0 ta (u De) ro2 k2)) :
    Gp K B F0 ta (tSeq (tWhile tt tb) u De) ro ka := g_while (De := { De with nx := u De }) Inv m0 h0 hs

theorem ei_range1 {tr : TA} {m : Int} (h : EvA K tr ro ka [.val (.int m)] k1) (hm : m ≤ 1000000) (hm0 : -1000000 ≤ m) : EvI K (iRng1 tr) ro ka ((List.range m.toNat).map fun i : Nat => W.val (.int (i : Int))) (fun _ => True) k1 := fun B F0 ta sg H R e q =>
  h B F0 ta sg H _ e fun vs H1 hl e1 => by
    match vs, hl with
    | [v], _ =>
      have hv := e1.tm_int (v := v) (i := m) List.mem_cons_self
      subst hv
      refine ⟨m, rfl, by omega, by omega, q _ ta H1 (fun p hp => hp) (e1.held fun p hp => List.mem_append_right _ hp) (fun i w ro2 ka2 ta2 sg2 H2 hw _ _ e2 => ?_) fun i ro2 ka2 ta2 sg2 H2 hi _ _ _ => ?_⟩
      · rw [List.getElem?_map] at hw
        cases hi : (List.range m.toNat)[i]? with
        | none => rw [hi] at hw; cases hw
        | some j =>
          rw [hi] at hw
          obtain ⟨hlt, hj⟩ := List.getElem?_eq_some_iff.mp hi
          rw [List.getElem_range] at hj
          subst hj
          cases hw
          refine ⟨by show i < _; simpa using hlt, fun x H3 ⟨e3, ex⟩ => ?_⟩
          subst e3 ex
          exact e2.push_imm fun _ => by
            show V.int (0 + (i : Int)) = V.int (i : Int)
            rw [Int.zero_add]
      · rw [List.length_map, List.length_range] at hi
        exact hi
theorem ei_range2 {tr : TA} {l m : Int} (h : EvA K tr ro ka [.val (.int l), .val (.int m)] k1) (hm : m ≤ 1000000) (hm0 : -1000000 ≤ m) (hl0 : -1000000 ≤ l) (hl1 : l ≤ 1000000) : EvI K (iRng2 tr) ro ka ((List.range (m - l).toNat).map fun i : Nat => W.val (.int (l + (i : Int)))) (fun _ => True) k1 := fun B F0 ta sg H R e q =>
  h B F0 ta sg H _ e fun vs H1 hl e1 => by
    match vs, hl with
    | [v, v'], _ =>
      have hv := e1.tm_int (v := v) (i := l) List.mem_cons_self
      have hv' := e1.tm_int (v := v') (i := m) (List.mem_cons_of_mem _ List.mem_cons_self)
      subst hv hv'
      refine ⟨l, m, rfl, ⟨by omega, by omega, by omega, by omega⟩, q _ ta H1 (fun p hp => hp) (e1.held fun p hp => List.mem_append_right _ hp) (fun i w ro2 ka2 ta2 sg2 H2 hw _ _ e2 => ?_) fun i ro2 ka2 ta2 sg2 H2 hi _ _ _ => ?_⟩
      · rw [List.getElem?_map] at hw
        cases hi : (List.range (m - l).toNat)[i]? with
        | none => rw [hi] at hw; cases hw
        | some j =>
          rw [hi] at hw
          obtain ⟨hlt, hj⟩ := List.getElem?_eq_some_iff.mp hi
          rw [List.getElem_range] at hj
          subst hj
          cases hw
          refine ⟨by show i < _; simpa using hlt, fun x H3 ⟨e3, ex⟩ => ?_⟩
          subst e3 ex
          exact e2.push_imm fun _ => rfl
      · rw [List.length_map, List.length_range] at hi
        exact hi
end

/-! ### any sequence walked -/
/-- lists, tuples, texts -/
def iSeq (K : PySem.W.Frag) (tl : TE) : TI := fun sg H R => iList K tl sg H R ∨ iTup K tl sg H R ∨ iStr tl sg H R
theorem pi_seq {X : Cx} {tg : Expr} {l : Expr} {tl : TE} (hl : PE X l tl) : PI X tg l (iSeq X.K tl) :=
  ⟨fun pins s sg H R I h => h.elim ((pi_list hl).run pins s sg H R I) fun h => h.elim ((pi_tup hl).run pins s sg H R I) ((pi_str hl).run pins s sg H R I)⟩
section
variable {K : PySem.W.Frag} {ro : Ro} {ka k1 : Cells} {te : TE} {w : W}
/-- the cell that is walked stays -/
def Stay (w : W) (ds : List D) (ka : Cells) : Prop := match w with
  | .val (.adr a) => (a, Nd.lst ds) ∈ ka
  | _ => True
theorem Lk.mono {ka : Cells} {t b : Bool} {ds : List D} (l : Lk ka w t ds b) (ka2 : Cells) (h : Stay w ds ka2) : Lk ka2 w t ds b := by
  cases l with
  | vl => exact .vl
  | vt => exact .vt
  | wl => exact .wl
  | wt => exact .wt
  | ce j hj =>
    obtain ⟨j2, h2⟩ := List.getElem?_of_mem h
    exact .ce j2 h2
theorem ei_seq {t b : Bool} {ds : List D} (h : EvD K te ro ka w k1) (l : Lk k1 w t ds b) : EvI K (iSeq K te) ro ka (ds.map (part b)) (Stay w ds) k1 := fun B F0 ta sg H R e q => by
  have again : ∀ (a : Addr) ro2 ka2 ta2 sg2 H2, Stay w ds ka2 → (V.ref a, w) ∈ ta2 → En K B F0 ro2 ka2 ta2 sg2 H2 → ∃ F ys, EnF K B F ro2 ka2 ta2 sg2 H2 ∧ Gr B F0 F ∧ SqB K t H2 a ys ∧ RpL K (if b then uni B F else F) ds ys := fun a ro2 ka2 ta2 sg2 H2 hs hm e2 => by
    obtain ⟨F, g, e2⟩ := e2
    obtain ⟨a', ys, e', s2, r2⟩ := (l.mono ka2 hs).get e2 (e2.tm _ hm)
    cases e'
    exact ⟨F, ys, e2, g, s2, r2⟩
  have item : ∀ {i : Nat} {w2 : W} {F : Hp} {ys : List V}, (ds.map (part b))[i]? = some w2 → RpL K (if b then uni B F else F) ds ys → ∃ y, ys[i]? = some y ∧ WOk K B F y w2 := fun {i w2 F ys} hw r2 => by
    rw [List.getElem?_map] at hw
    cases hd : ds[i]? with
    | none => rw [hd] at hw; cases hw
    | some d =>
      rw [hd] at hw
      cases hw
      obtain ⟨y, hy, ry⟩ := rpl_get r2 hd
      exact ⟨y, hy, wok_part b ry⟩
  cases t with
  | true =>
    refine .inr (.inl (h B F0 ta sg H _ e fun v H1 e1 => ?_))
    obtain ⟨F, g, ef⟩ := id e1
    obtain ⟨a, xs, rfl, s1, r1⟩ := l.get ef (ef.tm _ List.mem_cons_self)
    refine ⟨a, rfl, ⟨xs, s1⟩, q _ ((.ref a, w) :: ta) H1 (fun p hp => List.mem_cons_of_mem _ hp) e1 (fun i w2 ro2 ka2 ta2 sg2 H2 hw hs hm e2 => ?_) fun i ro2 ka2 ta2 sg2 H2 hi hs hm e2 => ?_⟩
    · obtain ⟨F2, ys, ef2, g2, s2, r2⟩ := again a ro2 ka2 ta2 sg2 H2 hs (hm _ List.mem_cons_self) e2
      obtain ⟨y, hy, wy⟩ := item hw r2
      refine ⟨⟨ys, y, s2, hy⟩, fun x H3 ⟨e3, ex⟩ => ?_⟩
      subst e3
      have h5 := ex ys s2
      rw [hy] at h5
      cases h5
      exact ⟨F2, g2, ef2.push wy⟩
    · obtain ⟨F2, ys, ef2, g2, s2, r2⟩ := again a ro2 ka2 ta2 sg2 H2 hs (hm _ List.mem_cons_self) e2
      refine ⟨ys, s2, ?_⟩
      rw [rpl_len r2]
      rwa [List.length_map] at hi
  | false =>
    refine .inl (h B F0 ta sg H _ e fun v H1 e1 => ?_)
    obtain ⟨F, g, ef⟩ := id e1
    obtain ⟨a, xs, rfl, s1, r1⟩ := l.get ef (ef.tm _ List.mem_cons_self)
    refine ⟨a, rfl, ⟨xs, .inl s1⟩, q _ ((.ref a, w) :: ta) H1 (fun p hp => List.mem_cons_of_mem _ hp) e1 (fun i w2 ro2 ka2 ta2 sg2 H2 hw hs hm e2 => ?_) fun i ro2 ka2 ta2 sg2 H2 hi hs hm e2 => ?_⟩
    · obtain ⟨F2, ys, ef2, g2, s2, r2⟩ := again a ro2 ka2 ta2 sg2 H2 hs (hm _ List.mem_cons_self) e2
      obtain ⟨y, hy, wy⟩ := item hw r2
      refine ⟨⟨ys, y, .inl s2, hy⟩, fun x H3 ⟨e3, ex⟩ => ?_⟩
      subst e3
      have h5 := ex ys (.inl s2)
      rw [hy] at h5
      cases h5
      exact ⟨F2, g2, ef2.push wy⟩
    · obtain ⟨F2, ys, ef2, g2, s2, r2⟩ := again a ro2 ka2 ta2 sg2 H2 hs (hm _ List.mem_cons_self) e2
      refine ⟨ys, .inl s2, ?_⟩
      rw [rpl_len r2]
      rwa [List.length_map] at hi
theorem ei_str {s : Str} (h : EvD K te ro ka (.val (.str s)) k1) : EvI K (iSeq K te) ro ka (s.cps.toList.map fun c => W.val (.str ⟨#[c]⟩)) (fun _ => True) k1 := fun B F0 ta sg H R e q =>
  .inr (.inr (h B F0 ta sg H _ e fun v H1 e1 => by
    have hv := e1.tm_str List.mem_cons_self
    subst hv
    refine ⟨s, rfl, q _ ta H1 (fun p hp => hp) e1.pop (fun i w2 ro2 ka2 ta2 sg2 H2 hw _ hm e2 => ?_) fun i ro2 ka2 ta2 sg2 H2 hi _ hm e2 => ?_⟩
    · rw [List.getElem?_map] at hw
      cases hd : s.cps.toList[i]? with
      | none => rw [hd] at hw; cases hw
      | some c =>
        rw [hd] at hw
        cases hw
        have hc : s.cps[i]? = some c := by simpa using hd
        refine ⟨(Array.getElem?_eq_some_iff.mp hc).1, fun x H3 ⟨e3, c', hc', ex⟩ => ?_⟩
        subst e3 ex
        rw [hc] at hc'
        cases hc'
        exact e2.push_imm fun _ => rfl
    · show s.cps.size ≤ i
      simpa using hi))
end
end DL

/-! DT: frames, calls, comprehensions by data (own work). -/
namespace DL
open PySem L2

section
variable {K : PySem.W.Frag} {B B' F F' F0 : Hp} {ro : Ro} {ka k1 k2 k3 kr : Cells} {ta : List (V × W)} {sg : L2.St} {H H' : Hp} {te tf tg : TE} {tl th : TO} {tr : TA} {tt : TT} {w x y z : W} {n : Nd}

/-- H without the cells of kf -/
def off (H : Hp) (kf : Cells) : Hp := fun a => if a ∈ kf.map (·.1) then none else H a
theorem off_in {kf : Cells} {a : Addr} (h : a ∈ kf.map (·.1)) : off H kf a = none := if_pos h
theorem off_out {kf : Cells} {a : Addr} (h : a ∉ kf.map (·.1)) : off H kf a = H a := if_neg h
theorem off_some {kf : Cells} {a : Addr} {o : HO} (h : off H kf a = some o) : a ∉ kf.map (·.1) ∧ H a = some o := by
  unfold off at h
  split at h
  · cases h
  · rename_i q
    exact ⟨q, h⟩
theorem EnF.sub_off (e : EnF K B F ro ka ta sg H) {kf : Cells} (hk : ∀ p ∈ kf, p ∈ ka) : Sub B (off H kf) := fun a o h => by
  have na : a ∉ kf.map (·.1) := fun hm => by
    obtain ⟨p, hp, rfl⟩ := List.mem_map.mp hm
    have := (e.ce p (hk p hp)).2.1
    rw [this] at h
    cases h
  rw [off_out na]
  exact e.fr a o h
theorem uni_subB {B B' F : Hp} (h : Sub B B') : Sub (uni B F) (uni B' F) := fun a u q => by
  unfold uni at q ⊢
  cases hf : F a with
  | some o => rw [hf] at q; exact q
  | none =>
    rw [hf] at q
    cases hb : B a with
    | none => rw [hb] at q; cases q
    | some o => rw [hb] at q; rw [h a o hb]; exact q
theorem wok_subB (n : Nz F) (h : Sub B B') {v : V} {w : W} (q : WOk K B F v w) : WOk K B' F v w := by
  cases w with
  | val d => exact q
  | vw d => exact Rp.mono (uni_subB h).exz (uni_nz n) d v q
/-- the part of a state that a part of the text works on: the cells kf, all else as it stands -/
theorem EnF.into (e : EnF K B F ro (ka ++ kr) ta sg H) {ro' : Ro} {sg' : L2.St} {ta' : List (V × W)} (hl : sg'.length = ro'.length) (hs : ∀ (i : Nat) w, ro'[i]? = some (some w) → ∃ v, sg'[i]? = some (some v) ∧ WOk K B F v w) (ht : ∀ p ∈ ta', p ∈ ta) :
    EnF K (off H ka) F ro' ka ta' sg' H := by
  have hsub : Sub B (off H ka) := e.sub_off fun p hp => List.mem_append_left _ hp
  have nd := e.nd
  rw [List.map_append, List.nodup_append] at nd
  refine ⟨e.nz, e.fz, fun a o h => (off_some h).2, nd.1, fun p hp => ?_, hl, fun i w h => ?_, fun p hp => wok_subB e.nz hsub (e.tm p (ht p hp))⟩
  · obtain ⟨h1, h2, h3⟩ := e.ce p (List.mem_append_left _ hp)
    exact ⟨h1, off_in (List.mem_map.mpr ⟨p, hp, rfl⟩), h3⟩
  · obtain ⟨v, h1, h2⟩ := hs i w h
    exact ⟨v, h1, wok_subB e.nz hsub h2⟩
/-- .. and back -/
theorem EnF.back (e : EnF K B F ro (ka ++ kr) ta sg H) (g : Gr (off H ka) F F') {ro' : Ro} {sg' : L2.St} {ta' : List (V × W)} (e' : EnF K (off H ka) F' ro' k2 ta' sg' H') {tb : List (V × W)} (hb : ∀ p ∈ tb, p ∈ ta ∨ ∃ d, p.2 = .val d ∧ p ∈ ta') :
    Gr B F F' ∧ EnF K B F' ro (k2 ++ kr) tb sg H' := by
  have hsub : Sub B (off H ka) := e.sub_off fun p hp => List.mem_append_left _ hp
  have gg : Gr B F F' := ⟨g.sub, fun a h1 h2 => g.off a h1 fun q => by
    cases hb2 : B a with
    | none => exact h2 hb2
    | some o => rw [hsub a o hb2] at q; cases q⟩
  have nd := e.nd
  rw [List.map_append, List.nodup_append] at nd
  -- the cells that were left stand off what was worked on
  have left : ∀ p ∈ kr, off H ka p.1 ≠ none ∧ H' p.1 = H p.1 := fun p hp => by
    obtain ⟨h1, h2, h3⟩ := e.ce p (List.mem_append_right _ hp)
    have hn : p.1 ∉ ka.map (·.1) := fun hm => nd.2.2 _ hm _ (List.mem_map.mpr ⟨p, hp, rfl⟩) rfl
    cases q : H p.1 with
    | none => exact absurd q (ndok_ne h3)
    | some o =>
      have ho : off H ka p.1 = some o := by rw [off_out hn]; exact q
      exact ⟨by rw [ho]; exact fun z => (by cases z), e'.fr _ _ ho⟩
  refine ⟨gg, e'.nz, e'.fz, hsub.trans e'.fr, ?_, fun p hp => ?_, e.ln, fun i w h => ?_, fun p hp => ?_⟩
  · rw [List.map_append, List.nodup_append]
    refine ⟨e'.nd, nd.2.1, fun a ha b hb => ?_⟩
    obtain ⟨p, hp, rfl⟩ := List.mem_map.mp ha
    obtain ⟨q, hq, rfl⟩ := List.mem_map.mp hb
    intro z
    exact (left q hq).1 (z ▸ (e'.ce p hp).2.1)
  · rcases List.mem_append.mp hp with hp | hp
    · obtain ⟨h1, h2, h3⟩ := e'.ce p hp
      refine ⟨h1, ?_, h3⟩
      cases q : B p.1 with
      | none => rfl
      | some o => rw [hsub _ _ q] at h2; cases h2
    · obtain ⟨h1, h2, h3⟩ := e.ce p (List.mem_append_right _ hp)
      obtain ⟨l1, l2⟩ := left p hp
      exact ⟨g.off _ h1 l1, h2, ndok_at l2 (ndok_gr e.nz gg h3)⟩
  · obtain ⟨v, h1, h2⟩ := e.sl i w h
    exact ⟨v, h1, wok_gr e.nz gg h2⟩
  · rcases hb p hp with q | ⟨d, hd, q⟩
    · exact wok_gr e.nz gg (e.tm p q)
    · have h2 := e'.tm p q
      rw [hd] at h2 ⊢
      exact h2

/-! ### frames -/
theorem EvD.fr {d : D} (h : EvD K te ro ka (.val d) k2) (kr : Cells) : EvD K te ro (ka ++ kr) (.val d) (k2 ++ kr) := fun B F0 ta sg H Q e q => by
  obtain ⟨F, g, e⟩ := e
  refine h (off H ka) F ta sg H Q ⟨F, Gr.refl _ _, e.into e.ln e.sl fun p hp => hp⟩ fun v H' ⟨F', g', e'⟩ => ?_
  obtain ⟨g2, e2⟩ := e.back g' e' (tb := (v, .val d) :: ta) fun p hp => by
    rcases List.mem_cons.mp hp with rfl | hp
    · exact .inr ⟨d, rfl, List.mem_cons_self⟩
    · exact .inl hp
  exact q v H' ⟨F', g.trans g2, e2⟩
theorem EvT.fr {b : Bool} (h : EvT K tt ro ka b k2) (kr : Cells) : EvT K tt ro (ka ++ kr) b (k2 ++ kr) := fun B F0 ta sg H Q e q => by
  obtain ⟨F, g, e⟩ := e
  refine h (off H ka) F ta sg H Q ⟨F, Gr.refl _ _, e.into e.ln e.sl fun p hp => hp⟩ fun H' ⟨F', g', e'⟩ => ?_
  obtain ⟨g2, e2⟩ := e.back g' e' (tb := ta) fun p hp => .inl hp
  exact q H' ⟨F', g.trans g2, e2⟩
theorem En.perm (e : En K B F0 ro ka ta sg H) (h : k1.Perm ka) : En K B F0 ro k1 ta sg H :=
  let ⟨F, g, q⟩ := e
  ⟨F, g, q.perm h⟩
theorem EvN.fr {m : Nd} (h : EvN K te ro ka m k2) (kr : Cells) : EvN K te ro (ka ++ kr) m (k2 ++ kr) := fun B F0 ta sg H Q e q => by
  obtain ⟨F, g, e⟩ := e
  refine h (off H ka) F ta sg H Q ⟨F, Gr.refl _ _, e.into e.ln e.sl fun p hp => hp⟩ fun a H' ⟨F', g', e'⟩ => ?_
  obtain ⟨g2, e2⟩ := e.back g' e' (tb := ta) fun p hp => .inl hp
  refine q a H' ⟨F', g.trans g2, e2.perm ?_⟩
  rw [List.append_assoc, List.append_assoc]
  exact List.Perm.append_left _ List.perm_append_comm

/-! ### calls -/
/-- a call that comes back -/
theorem sp_ret {C : Ct} {ws : List W} {out : Out → Cells → Prop} {vs : List V} {E : XK} {Q : VK} {d : D} (e : En K B F0 ro (ka ++ kr) (vs.zip ws ++ ta) sg H) (hl : vs.length = ws.length) (hC : C ws ka out) (ho : ∀ o k, out o k → o = .ret d ∧ k = k2)
    (q : ∀ v H', En K B F0 ro (k2 ++ kr) ((v, .val d) :: ta) sg H' → Q v H') : spC K C vs H Q E := by
  obtain ⟨F, g, e⟩ := e
  refine ⟨off H ka, F, ws, ka, out, hC, hl, ⟨F, Gr.refl _ _, e.into (ro' := []) (sg' := []) (ta' := vs.zip ws) rfl (fun i w h => by simp at h) fun p hp => List.mem_append_left _ hp⟩, fun d' k v H' o ⟨F', g', e'⟩ => ?_, fun C fs k dx H' o _ => ?_, fun C k H' o _ => ?_⟩
  · obtain ⟨hd, rfl⟩ := ho _ _ o
    cases hd
    obtain ⟨g2, e2⟩ := e.back g' e' (tb := (v, .val d) :: ta) fun p hp => by
      rcases List.mem_cons.mp hp with rfl | hp
      · exact .inr ⟨d, rfl, List.mem_cons_self⟩
      · exact .inl (List.mem_append_right _ hp)
    exact q v H' ⟨F', g.trans g2, e2⟩
  · have := (ho _ _ o).1
    cases this
  · have := (ho _ _ o).1
    cases this
theorem ev_call {C : Ct} {ws : List W} {out : Out → Cells → Prop} {E : XK} {d : D} (ha : EvA K tr ro ka ws k1) (hC : C ws k1 out) (ho : ∀ o k, out o k → o = .ret d ∧ k = k2) : EvD K (tCall (spC K C) [] E tr) ro ka (.val d) k2 := fun B F0 ta sg H Q e q =>
  ha B F0 ta sg H _ e fun vs H1 hl e1 => by
    rw [List.append_nil]
    have e1' : En K B F0 ro (k1 ++ []) (vs.zip ws ++ ta) sg H1 := by rw [List.append_nil]; exact e1
    exact sp_ret e1' hl hC ho fun v H' e2 => q v H' (by rw [List.append_nil] at e2; exact e2)
/-- .. the cells that it works on ahead of others -/
theorem ev_callF {C : Ct} {ws : List W} {out : Out → Cells → Prop} {E : XK} {d : D} (kr : Cells) (ha : EvA K tr ro ka ws (k1 ++ kr)) (hC : C ws k1 out) (ho : ∀ o k, out o k → o = .ret d ∧ k = k2) : EvD K (tCall (spC K C) [] E tr) ro ka (.val d) (k2 ++ kr) := fun B F0 ta sg H Q e q =>
  ha B F0 ta sg H _ e fun vs H1 hl e1 => by
    rw [List.append_nil]
    exact sp_ret e1 hl hC ho q
/-- a contract that asks no cells and always comes back: what it hands back -/
def pure1 (f : List W → D → Prop) : Ct := fun ws ka out => ∃ d, f ws d ∧ ka = [] ∧ out = fun o k => o = .ret d ∧ k = []
theorem ev_pure {f : List W → D → Prop} {ws : List W} {E : XK} {d : D} (ha : EvA K tr ro ka ws k1) (h : f ws d) : EvD K (tCall (spC K (pure1 f)) [] E tr) ro ka (.val d) k1 := fun B F0 ta sg H Q e q =>
  ha B F0 ta sg H _ e fun vs H1 hl e1 => by
    rw [List.append_nil]
    exact sp_ret (ka := []) (k2 := []) (kr := k1) e1 hl ⟨d, h, rfl, rfl⟩ (fun o k h => h) q

/-! ### comprehensions -/
def wipeR (ro : Ro) : List Nat → Ro
  | [] => ro
  | v :: vs => (wipeR ro vs).set v none
theorem wipe_en : ∀ {vs : List Nat}, EnF K B F ro ka ta sg H → EnF K B F (wipeR ro vs) ka ta (wipe sg vs) H
  | [], e => e
  | v :: vs, e => by
    have e1 := wipe_en (vs := vs) e
    refine e1.frame (by show (List.set _ _ _).length = (List.set _ _ _).length; rw [List.length_set, List.length_set, e1.ln]) fun i w h => ?_
    show ∃ v', ((wipe sg vs).set v none)[i]? = some (some v') ∧ _
    have h' : ((wipeR ro vs).set v none)[i]? = some (some w) := h
    by_cases hi : v = i
    · subst hi
      have hlt : v < (wipeR ro vs).length := by
        have := (List.getElem?_eq_some_iff.mp h').1
        rwa [List.length_set] at this
      rw [List.getElem?_set_self hlt] at h'
      cases h'
    · rw [List.getElem?_set_ne hi] at h' ⊢
      exact e1.sl i w h'
theorem wipe_set (sg : L2.St) (vs : List Nat) {j : Nat} (hj : j ∈ vs) (v : V) : wipe ((wipe sg vs).set j (some v)) vs = wipe sg vs := by
  have key : ∀ (vs : List Nat) (s t : L2.St), s.length = t.length → (∀ i : Nat, i ∉ vs → s[i]? = t[i]?) → wipe s vs = wipe t vs := by
    intro vs
    induction vs with
    | nil =>
      intro s t hl h
      exact List.ext_getElem? fun i => h i (by simp)
    | cons a vs ih =>
      intro s t hl h
      show (wipe s vs).set a none = (wipe t vs).set a none
      apply List.ext_getElem?
      intro i
      by_cases hi : a = i
      · subst hi
        rw [List.getElem?_set, List.getElem?_set, wipe_length, wipe_length, hl, if_pos rfl, if_pos rfl]
      · rw [List.getElem?_set_ne hi, List.getElem?_set_ne hi]
        have gen : ∀ (vs : List Nat) (s t : L2.St), s.length = t.length → ∀ i : Nat, s[i]? = t[i]? → (wipe s vs)[i]? = (wipe t vs)[i]? := by
          intro vs
          induction vs with
          | nil => intro s t _ i h; exact h
          | cons b vs ih2 =>
            intro s t hl i h
            show ((wipe s vs).set b none)[i]? = ((wipe t vs).set b none)[i]?
            rw [List.getElem?_set, List.getElem?_set, wipe_length, wipe_length, hl, ih2 s t hl i h]
        by_cases hv : i ∈ vs
        · have wn : ∀ (vs : List Nat) (s : L2.St) (i : Nat), i ∈ vs → i < s.length → (wipe s vs)[i]? = some none := by
            intro vs
            induction vs with
            | nil => intro s i h; simp at h
            | cons b vs ih2 =>
              intro s i h hlt
              show ((wipe s vs).set b none)[i]? = some none
              by_cases hb : b = i
              · subst hb
                rw [List.getElem?_set_self (by rw [wipe_length]; exact hlt)]
              · rw [List.getElem?_set_ne hb]
                rcases List.mem_cons.mp h with q | q
                · exact absurd q.symm hb
                · exact ih2 s i q hlt
          by_cases hlt : i < s.length
          · rw [wn vs s i hv hlt, wn vs t i hv (hl ▸ hlt)]
          · rw [List.getElem?_eq_none (by rw [wipe_length]; omega), List.getElem?_eq_none (by rw [wipe_length]; omega)]
        · exact gen vs s t hl i (h i (by simp [Ne.symm hi, hv]))
  have idem : ∀ (vs : List Nat) (s : L2.St), wipe (wipe s vs) vs = wipe s vs := fun vs s => key vs _ _ (wipe_length _ _) fun i hi => by
    have gen : ∀ (us : List Nat) (s : L2.St), i ∉ us → (wipe s us)[i]? = s[i]? := by
      intro us
      induction us with
      | nil => intro s _; rfl
      | cons b us ih2 =>
        intro s h
        show ((wipe s us).set b none)[i]? = s[i]?
        rw [List.getElem?_set_ne (fun q => h (by simp [q])), ih2 s fun q => h (List.mem_cons_of_mem _ q)]
    exact gen vs s hi
  have e1 : wipe ((wipe sg vs).set j (some v)) vs = wipe (wipe sg vs) vs := key vs _ _ (by rw [List.length_set]) fun i hi => by
    have hne : j ≠ i := fun q => hi (q ▸ hj)
    exact List.getElem?_set_ne hne
  rw [e1, idem]
/-- a new cell of which R tells -/
def EvNR (K : PySem.W.Frag) (te : TE) (ro : Ro) (ka : Cells) (R : Nd → Cells → Prop) : Prop := ∀ B F0 ta sg H (Q : VK), En K B F0 ro ka ta sg H → (∀ n k a H', R n k → En K B F0 ro (k ++ [(a, n)]) ta sg H' → Q (.ref a) H') → te sg H Q
/-- [e for x in .. if ..]: what is told of the list -/
theorem evr_lc {wi : TI} {ws : List W} {C : Cells → Prop} {j : Nat} {vs : List Nat} (h : EvI K wi ro ka ws C k1) (hj : j ∈ vs) (hn : ws.length ≤ 1000000) (Inv : Nat → List D → Cells → Prop) (h0 : Inv 0 [] k1) (hC : ∀ i acc k, Inv i acc k → C k ∧ ∀ x, C (k ++ [x]))
    (hs : ∀ i w acc k, ws[i]? = some w → Inv i acc k → (∃ k2, EvT K tt ((wipeR ro vs).set j (some w)) k false k2 ∧ Inv (i + 1) acc k2) ∨ ∃ k2 k3 d, EvT K tt ((wipeR ro vs).set j (some w)) k true k2 ∧ EvD K te ((wipeR ro vs).set j (some w)) k2 (.val d) k3 ∧ Inv (i + 1) (acc ++ [d]) k3)
    : EvNR K (tLc wi (gName j) tt te vs) ro ka (fun n k => ∃ acc, n = .lst acc ∧ Inv ws.length acc k) := fun B F0 ta sg H Q e q =>
  h B F0 ta sg H _ e fun J ta' H1 hta e1 hgo hst => fun Dl hD => by
    -- the word: the list so far is the last cell
    let P : Nat → Hp → Prop := fun i H => ∃ acc k, Inv i acc k ∧ acc.length ≤ i ∧ En K B F0 ro (k ++ [(Dl, .lst acc)]) ta' sg H
    have p0 : P 0 (upd H1 Dl (.lst [])) := by
      obtain ⟨F, g, e1⟩ := e1
      exact ⟨[], k1, h0, Nat.le_refl _, F, g, e1.cell (o := .lst []) hD (n := .lst []) ⟨[], upd_same, rfl⟩⟩
    refine ⟨fun i m H => m = ws.length - i ∧ i ≤ ws.length ∧ P i H, ⟨ws.length, by simp, Nat.zero_le _, p0⟩, ?_⟩
    rintro i m H2 ⟨rfl, hi, acc, k, inv, hlen, e2⟩
    by_cases hlt : i < ws.length
    · have hw := List.getElem?_eq_getElem hlt
      obtain ⟨g1, g2⟩ := hgo i ws[i] ro (k ++ [(Dl, .lst acc)]) ta' sg H2 hw ((hC i acc k inv).2 _) (fun p hp => hp) e2
      refine .inr ⟨g1, P (i + 1), fun H' p => ⟨ws.length - (i + 1), by omega, rfl, hlt, p⟩, fun x H3 y => ?_⟩
      have e3 := g2 x H3 y
      refine ⟨wipe_set sg vs hj x, ?_⟩
      -- within the block
      have e4 : En K B F0 ((wipeR ro vs).set j (some ws[i])) (k ++ [(Dl, .lst acc)]) ta' ((wipe sg vs).set j (some x)) H3 := by
        obtain ⟨F, g, e3⟩ := e3
        exact ⟨F, g, ((wipe_en (vs := vs) e3).set (e3.tm _ List.mem_cons_self) j).held fun p hp => List.mem_cons_of_mem _ hp⟩
      -- and back out of it
      have out : ∀ {k : Cells} {ta2 : List (V × W)} {H : Hp}, (∃ F, Gr B F0 F ∧ EnF K B F ((wipeR ro vs).set j (some ws[i])) k ta2 ((wipe sg vs).set j (some x)) H ∧ ∀ (a : Nat) w, ro[a]? = some (some w) → ∃ v, sg[a]? = some (some v) ∧ WOk K B F v w) → En K B F0 ro k ta2 sg H := fun ⟨F, g, q, hs⟩ => ⟨F, g, q.frame (by obtain ⟨_, _, e0⟩ := e; exact e0.ln) hs⟩
      obtain ⟨F3, gF3, eF3⟩ := e3
      have slots : ∀ {F : Hp}, Gr B F3 F → ∀ (a : Nat) w, ro[a]? = some (some w) → ∃ v, sg[a]? = some (some v) ∧ WOk K B F v w := fun {F} g a w ha => by
        obtain ⟨v, h1, h2⟩ := eF3.sl a w ha
        exact ⟨v, h1, wok_gr eF3.nz g h2⟩
      have e4' : En K B F3 ((wipeR ro vs).set j (some ws[i])) (k ++ [(Dl, .lst acc)]) ta' ((wipe sg vs).set j (some x)) H3 :=
        ⟨F3, Gr.refl _ _, ((wipe_en (vs := vs) eF3).set (eF3.tm _ List.mem_cons_self) j).held fun p hp => List.mem_cons_of_mem _ hp⟩
      rcases hs i ws[i] acc k hw inv with ⟨k2, t1, inv2⟩ | ⟨k2, k3, d, t1, t2, inv2⟩
      · refine t1.fr [(Dl, .lst acc)] B F3 ta' _ H3 _ e4' fun H4 ⟨F4, g4, e5⟩ => ?_
        exact ⟨acc, k2, inv2, Nat.le_succ_of_le hlen, out ⟨F4, gF3.trans g4, e5, slots g4⟩⟩
      · refine t1.fr [(Dl, .lst acc)] B F3 ta' _ H3 _ e4' fun H4 e5 => ?_
        refine t2.fr [(Dl, .lst acc)] B F3 ta' _ H4 _ e5 fun v H5 ⟨F5, g5, e6⟩ => ?_
        have hx : (k3 ++ [(Dl, Nd.lst acc)])[k3.length]? = some (Dl, Nd.lst acc) := by simp
        obtain ⟨xs, h1, h2⟩ := e6.rd_lst hx
        have hv := e6.tm _ List.mem_cons_self
        have e7 := e6.write (o := .lst (xs ++ [v])) (n' := .lst (acc ++ [d])) hx ⟨_, upd_same, rpl_app h2 ⟨v, [], rfl, hv, rfl⟩⟩
        have hset : (k3 ++ [(Dl, Nd.lst acc)]).set k3.length (Dl, Nd.lst (acc ++ [d])) = k3 ++ [(Dl, Nd.lst (acc ++ [d]))] := by
          rw [List.set_append_right _ _ (Nat.le_refl _)]
          simp
        rw [hset] at e7
        refine ⟨xs, h1, by rw [rpl_len h2]; exact Nat.lt_of_le_of_lt (Nat.le_trans hlen (Nat.le_trans hi hn)) (by decide), acc ++ [d], k3, inv2, by rw [List.length_append]; exact Nat.succ_le_succ hlen, ?_⟩
        exact out ⟨F5, gF3.trans g5, e7.held fun p hp => List.mem_cons_of_mem _ hp, slots g5⟩
    · have ei : i = ws.length := by omega
      subst ei
      refine .inl ⟨hst _ ro (k ++ [(Dl, .lst acc)]) ta' sg H2 (Nat.le_refl _) ((hC _ acc k inv).2 _) (fun p hp => hp) e2, ?_⟩
      exact q _ _ Dl H2 ⟨acc, rfl, inv⟩ (e2.held hta)
/-- [e for x in .. if ..] -/
theorem evn_lc {wi : TI} {ws : List W} {C : Cells → Prop} {j : Nat} {vs : List Nat} (h : EvI K wi ro ka ws C k1) (hj : j ∈ vs) (hn : ws.length ≤ 1000000) (Inv : Nat → List D → Cells → Prop) (h0 : Inv 0 [] k1) (hC : ∀ i acc k, Inv i acc k → C k ∧ ∀ x, C (k ++ [x]))
    (hs : ∀ i w acc k, ws[i]? = some w → Inv i acc k → (∃ k2, EvT K tt ((wipeR ro vs).set j (some w)) k false k2 ∧ Inv (i + 1) acc k2) ∨ ∃ k2 k3 d, EvT K tt ((wipeR ro vs).set j (some w)) k true k2 ∧ EvD K te ((wipeR ro vs).set j (some w)) k2 (.val d) k3 ∧ Inv (i + 1) (acc ++ [d]) k3)
    {ds : List D} {kz : Cells} (hd : ∀ acc k, Inv ws.length acc k → acc = ds ∧ k = kz) : EvN K (tLc wi (gName j) tt te vs) ro ka (.lst ds) kz := fun B F0 ta sg H Q e q => evr_lc h hj hn Inv h0 hC hs B F0 ta sg H Q e fun n k a H' ⟨acc, hn', inv⟩ e' => by
  subst hn'
  obtain ⟨rfl, rfl⟩ := hd acc k inv
  exact q a H' e'
end
end DL

/-! DE: equality of data (own work). -/
namespace DL
open PySem L2 PySem.SeqAt

mutual
def eqD : D → D → Bool
  | .non, .non => true
  | .bl a, .bl b => a == b
  | .bl a, .int j => (if a then 1 else 0) == j
  | .int i, .bl b => i == (if b then 1 else 0)
  | .int i, .int j => i == j
  | .str x, .str y => x == y
  | .lst xs, .lst ys => eqL xs ys
  | .tup xs, .tup ys => eqL xs ys
  | _, _ => false
def eqL : List D → List D → Bool
  | [], [] => true
  | x :: xs, y :: ys => eqD x y && eqL xs ys
  | _, _ => false
end
/-- plain data: numbers, texts, lists and tuples of these, at most n deep -/
def pl : Nat → D → Bool
  | _, .non => true
  | _, .bl _ => true
  | _, .int _ => true
  | _, .str _ => true
  | n + 1, .lst ds => ds.all (pl n)
  | n + 1, .tup ds => ds.all (pl n)
  | _, _ => false
theorem eqL_len : ∀ {xs ys : List D}, eqL xs ys = true → xs.length = ys.length
  | [], [], _ => rfl
  | [], _ :: _, h => by cases h
  | _ :: _, [], h => by cases h
  | x :: xs, y :: ys, h => by
    have h2 := (Bool.and_eq_true_iff.mp (show (eqD x y && eqL xs ys) = true from h)).2
    rw [List.length_cons, List.length_cons, eqL_len h2]
theorem eqL_ne {xs ys : List D} (h : xs.length ≠ ys.length) : eqL xs ys = false := by
  cases q : eqL xs ys with
  | false => rfl
  | true => exact absurd (eqL_len q) h
/-- equal item by item -/
theorem eqL_all : ∀ (xs ys : List D), xs.length = ys.length → eqL xs ys = (List.range xs.length).all fun j => eqD (xs.getD j .non) (ys.getD j .non)
  | [], [], _ => rfl
  | [], _ :: _, h => by cases h
  | _ :: _, [], h => by cases h
  | x :: xs, y :: ys, h => by
    have ih := eqL_all xs ys (by simpa using h)
    show (eqD x y && eqL xs ys) = _
    rw [ih, List.length_cons, List.range_succ_eq_map, List.all_cons, List.all_map]
    rfl
theorem eqD_refl (n : Nat) : ∀ (d : D), pl n d = true → eqD d d = true := by
  induction n with
  | zero =>
    intro d h
    cases d <;> first | rfl | exact beq_self_eq_true _ | cases h
  | succ n ih =>
    have hl : ∀ ds : List D, ds.all (pl n) = true → eqL ds ds = true := by
      intro ds
      induction ds with
      | nil => intro _; rfl
      | cons d ds ih2 =>
        intro h
        rw [List.all_cons] at h
        obtain ⟨h1, h2⟩ := Bool.and_eq_true_iff.mp h
        show (eqD d d && eqL ds ds) = true
        rw [ih d h1, ih2 h2] <;> rfl
    intro d h
    cases d with
    | lst ds => exact hl ds h
    | tup ds => exact hl ds h
    | _ => first | rfl | exact beq_self_eq_true _ | cases h
section
variable {X : Cx} {pins : List (Addr × Obj)} {sg : L2.St} {H G : Hp} {s : Shared}
/-- the same value, two readings: equal -/
theorem eqD_same (I : Inv X pins sg H s) (fz : Exz G H) (nz : Nz G) (n : Nat) : ∀ (d e : D) (v : V), pl n d = true → pl n e = true → Rp X.K G d v → Rp X.K G e v → eqD d e = true := by
  induction n with
  | zero =>
    intro d e v h1 h2 r1 r2
    cases d <;> first | (exact absurd h1 Bool.false_ne_true) | skip
    all_goals cases e <;> first | (exact absurd h2 Bool.false_ne_true) | skip
    all_goals (have q := Eq.trans (Eq.symm (show v = _ from r1)) (show v = _ from r2); first | rfl | (cases q <;> first | rfl | exact beq_self_eq_true _))
  | succ n ih =>
    have hl : ∀ (ds es : List D) (xs : List V), ds.all (pl n) = true → es.all (pl n) = true → RpL X.K G ds xs → RpL X.K G es xs → eqL ds es = true := by
      intro ds
      induction ds with
      | nil =>
        intro es xs _ _ r1 r2
        cases es with
        | nil => rfl
        | cons e es =>
          obtain ⟨x, ys, hx, _⟩ := r2
          rw [show xs = [] from r1] at hx
          cases hx
      | cons d ds ih2 =>
        intro es xs h1 h2 r1 r2
        obtain ⟨x, ys, rfl, a1, a2⟩ := r1
        cases es with
        | nil => cases (show x :: ys = [] from r2)
        | cons e es =>
          obtain ⟨x', ys', hx, b1, b2⟩ := r2
          cases hx
          rw [List.all_cons] at h1 h2
          obtain ⟨c1, c2⟩ := Bool.and_eq_true_iff.mp h1
          obtain ⟨e1, e2⟩ := Bool.and_eq_true_iff.mp h2
          show (eqD d e && eqL ds es) = true
          rw [ih d e x c1 e1 a1 b1, ih2 es ys c2 e2 a2 b2] <;> rfl
    intro d e v h1 h2 r1 r2
    cases d <;> first | (exact absurd h1 Bool.false_ne_true) | skip
    all_goals cases e <;> first | (exact absurd h2 Bool.false_ne_true) | skip
    case tup.tup ds es =>
      obtain ⟨a, xs, rfl, q1, q2⟩ := r1
      obtain ⟨a', ys, e', p1, p2⟩ := r2
      cases e'
      have hxy := I.tuple_inj (sqT_mono fz nz q1) (sqT_mono fz nz p1)
      subst hxy
      exact hl ds es xs h1 h2 q2 p2
    case lst.lst ds es =>
      obtain ⟨a, xs, rfl, q1, q2⟩ := r1
      obtain ⟨a', ys, e', p1, p2⟩ := r2
      cases e'
      have hxy := I.list_inj (.inl (fz.rd nz q1)) (.inl (fz.rd nz p1))
      subst hxy
      exact hl ds es xs h1 h2 q2 p2
    case tup.lst ds es =>
      obtain ⟨a, xs, rfl, q1, q2⟩ := r1
      obtain ⟨a', ys, e', p1, p2⟩ := r2
      cases e'
      obtain ⟨its, _, t1, _⟩ := I.tuple (sqT_mono fz nz q1)
      obtain ⟨its2, _, t2, _⟩ := I.list (.inl (fz.rd nz p1))
      exact absurd rfl (ne_of_list_tuple t2.isList t1)
    case lst.tup ds es =>
      obtain ⟨a, xs, rfl, q1, q2⟩ := r1
      obtain ⟨a', ys, e', p1, p2⟩ := r2
      cases e'
      obtain ⟨its, _, t1, _⟩ := I.tuple (sqT_mono fz nz p1)
      obtain ⟨its2, _, t2, _⟩ := I.list (.inl (fz.rd nz q1))
      exact absurd rfl (ne_of_list_tuple t2.isList t1)
    all_goals first
      | (obtain ⟨a, xs, rfl, _⟩ := r1; cases (show V.ref a = _ from r2))
      | (obtain ⟨a, xs, rfl, _⟩ := r2; cases (show V.ref a = _ from r1))
      | (have q := Eq.trans (Eq.symm (show v = _ from r1)) (show v = _ from r2); first | rfl | (cases q <;> first | rfl | exact beq_self_eq_true _))
/-- the items' equality, by place -/
theorem items_eq {n : Nat} {A : Around} (ih : ∀ (d e : D) (A : Around) (v w : V) (u u' : Value), pl n d = true → pl n e = true → Rp X.K G d v → Rp X.K G e w → RelV v u → RelV w u' → A.units + n < cLine → EqAt A s u u' (eqD d e))
    {ds es : List D} {xs ys : List V} {its its2 : List Value} (h1 : ds.all (pl n) = true) (h2 : es.all (pl n) = true) (r1 : RpL X.K G ds xs) (r2 : RpL X.K G es ys) (q1 : Vals xs its) (q2 : Vals ys its2) (hu : A.units + (n + 1) < cLine) :
    ∀ j (l1 : j < its.toArray.size) (l2 : j < its2.toArray.size), EqAt A.in1 s its.toArray[j] its2.toArray[j] (eqD (ds.getD j .non) (es.getD j .non)) := fun j l1 l2 => by
  have k1 : j < its.length := by simpa using l1
  have k2 : j < its2.length := by simpa using l2
  have m1 : j < ds.length := by rw [← rpl_len r1, q1.length]; exact k1
  have m2 : j < es.length := by rw [← rpl_len r2, q2.length]; exact k2
  obtain ⟨v, hv, rv⟩ := rpl_get r1 (List.getElem?_eq_getElem m1)
  obtain ⟨w, hw, rw2⟩ := rpl_get r2 (List.getElem?_eq_getElem m2)
  obtain ⟨u, hu1, ru⟩ := q1.get hv
  obtain ⟨u', hu2, ru'⟩ := q2.get hw
  have e1 : its.toArray[j] = u := by
    rw [List.getElem?_eq_getElem k1] at hu1
    simpa using hu1
  have e2 : its2.toArray[j] = u' := by
    rw [List.getElem?_eq_getElem k2] at hu2
    simpa using hu2
  have g1 : ds.getD j .non = ds[j] := by simp [List.getD, List.getElem?_eq_getElem m1]
  have g2 : es.getD j .non = es[j] := by simp [List.getD, List.getElem?_eq_getElem m2]
  rw [e1, e2, g1, g2]
  exact ih _ _ A.in1 v w u u' (List.all_eq_true.mp h1 _ (List.getElem_mem m1)) (List.all_eq_true.mp h2 _ (List.getElem_mem m2)) rv rw2 ru ru' (by show A.units + 1 + n < cLine; omega)
theorem list_flat {A : Around} {a : Addr} {its : Array Value} (h : s.heap.IsList a its) (hu : A.units < cLine) : ∀ {w : V} {u : Value}, RelV w u → flatV w = true → EqAt A s (.ref a) u false ∧ EqAt A s u (.ref a) false
  | .non, u, r, _ => by
    cases r
    exact ⟨EqAt.list_none h hu, EqAt.none_list h hu⟩
  | .bl b, u, r, _ => by
    cases r
    exact ⟨EqAt.list_bool b h hu, EqAt.bool_list b h hu⟩
  | .int i, u, r, _ => by
    obtain ⟨t, rfl⟩ := r
    exact ⟨EqAt.list_int i t h hu, EqAt.int_list i t h hu⟩
  | .str z, u, r, _ => by
    obtain ⟨t, rfl⟩ := r
    exact ⟨EqAt.list_str z t h hu, EqAt.str_list z t h hu⟩
  | .byt _, _, _, f => absurd f Bool.false_ne_true
  | .flt _, _, _, f => absurd f Bool.false_ne_true
  | .ref _, _, _, f => absurd f Bool.false_ne_true
  | .ty _, _, _, f => absurd f Bool.false_ne_true
theorem tup_flat {A : Around} {a : Addr} {its : Array Value} (h : s.heap.IsTuple a its) (hu : A.units < cLine) : ∀ {w : V} {u : Value}, RelV w u → flatV w = true → EqAt A s (.ref a) u false ∧ EqAt A s u (.ref a) false
  | .non, u, r, _ => by
    cases r
    exact ⟨EqAt.tuple_none h hu, EqAt.none_tuple h hu⟩
  | .bl b, u, r, _ => by
    cases r
    exact ⟨EqAt.tuple_bool b h hu, EqAt.bool_tuple b h hu⟩
  | .int i, u, r, _ => by
    obtain ⟨t, rfl⟩ := r
    exact ⟨EqAt.tuple_int i t h hu, EqAt.int_tuple i t h hu⟩
  | .str z, u, r, _ => by
    obtain ⟨t, rfl⟩ := r
    exact ⟨EqAt.tuple_str z t h hu, EqAt.str_tuple z t h hu⟩
  | .byt _, _, _, f => absurd f Bool.false_ne_true
  | .flt _, _, _, f => absurd f Bool.false_ne_true
  | .ref _, _, _, f => absurd f Bool.false_ne_true
  | .ty _, _, _, f => absurd f Bool.false_ne_true
/-- flat data -/
def fl : D → Bool
  | .non => true
  | .bl _ => true
  | .int _ => true
  | .str _ => true
  | _ => false
theorem fl_v : ∀ {d : D} {v : V}, fl d = true → Rp X.K G d v → flatV v = true
  | .non, v, _, h => by rw [show v = _ from h]; rfl
  | .bl _, v, _, h => by rw [show v = _ from h]; rfl
  | .int _, v, _, h => by rw [show v = _ from h]; rfl
  | .str _, v, _, h => by rw [show v = _ from h]; rfl
theorem fl_eq : ∀ {d e : D} {v w : V}, fl d = true → fl e = true → Rp X.K G d v → Rp X.K G e w → eqV v w = eqD d e := by
  intro d e v w h1 h2 r1 r2
  cases d <;> first | (exact absurd h1 Bool.false_ne_true) | skip
  all_goals cases e <;> first | (exact absurd h2 Bool.false_ne_true) | skip
  all_goals (have z1 := (show v = _ from r1); have z2 := (show w = _ from r2); subst z1 z2; rfl)
theorem eqAt_D (I : Inv X pins sg H s) (fz : Exz G H) (nz : Nz G) (n : Nat) : ∀ (d e : D) (A : Around) (v w : V) (u u' : Value), pl n d = true → pl n e = true → Rp X.K G d v → Rp X.K G e w → RelV v u → RelV w u' → A.units + n < cLine → EqAt A s u u' (eqD d e) := by
  have flat : ∀ (A : Around) (d e : D) (v w : V) (u u' : Value), RelV v u → RelV w u' → flatV v = true → flatV w = true → eqV v w = eqD d e → EqAt A s u u' (eqD d e) := fun A d e v w u u' r1 r2 f1 f2 q => q ▸ eqAt_V r1 r2 f1 f2
  induction n with
  | zero =>
    intro d e A v w u u' h1 h2 r1 r2 q1 q2 hu
    cases d <;> first | (exact absurd h1 Bool.false_ne_true) | skip
    all_goals cases e <;> first | (exact absurd h2 Bool.false_ne_true) | skip
    all_goals (have z1 := (show v = _ from r1); have z2 := (show w = _ from r2); subst z1 z2; exact flat A _ _ _ _ _ _ q1 q2 rfl rfl rfl)
  | succ n ih =>
    intro d e A v w u u' h1 h2 r1 r2 q1 q2 hu
    have hu0 : A.units < cLine := by omega
    have lstf : ∀ {ds : List D} {e : D}, Rp X.K G (.lst ds) v → fl e = true → Rp X.K G e w → RelV v u → RelV w u' → EqAt A s u u' false := fun {ds e} r1 f r2 q1 q2 => by
      obtain ⟨a, xs, rfl, a1, a2⟩ := r1
      cases q1
      obtain ⟨its, t1, t2, _⟩ := I.list (.inl (fz.rd nz a1))
      exact (list_flat t2.isList hu0 q2 (fl_v f r2)).1
    have tupf : ∀ {ds : List D} {e : D}, Rp X.K G (.tup ds) v → fl e = true → Rp X.K G e w → RelV v u → RelV w u' → EqAt A s u u' false := fun {ds e} r1 f r2 q1 q2 => by
      obtain ⟨a, xs, rfl, a1, a2⟩ := r1
      cases q1
      obtain ⟨its, t1, t2, _⟩ := I.tuple (sqT_mono fz nz a1)
      exact (tup_flat t2 hu0 q2 (fl_v f r2)).1
    have flst : ∀ {ds : List D} {e : D}, Rp X.K G e v → fl e = true → Rp X.K G (.lst ds) w → RelV v u → RelV w u' → EqAt A s u u' false := fun {ds e} r1 f r2 q1 q2 => by
      obtain ⟨a, xs, rfl, a1, a2⟩ := r2
      cases q2
      obtain ⟨its, t1, t2, _⟩ := I.list (.inl (fz.rd nz a1))
      exact (list_flat t2.isList hu0 q1 (fl_v f r1)).2
    have ftup : ∀ {ds : List D} {e : D}, Rp X.K G e v → fl e = true → Rp X.K G (.tup ds) w → RelV v u → RelV w u' → EqAt A s u u' false := fun {ds e} r1 f r2 q1 q2 => by
      obtain ⟨a, xs, rfl, a1, a2⟩ := r2
      cases q2
      obtain ⟨its, t1, t2, _⟩ := I.tuple (sqT_mono fz nz a1)
      exact (tup_flat t2 hu0 q1 (fl_v f r1)).2
    cases d <;> first | (exact absurd h1 Bool.false_ne_true) | skip
    all_goals cases e <;> first | (exact absurd h2 Bool.false_ne_true) | skip
    case lst.lst ds es =>
      by_cases hab : v = w
      · subst hab
        have hue : u = u' := by
          obtain ⟨a, xs, rfl, _⟩ := r1
          rw [show u = Value.ref a from q1, show u' = Value.ref a from q2]
        subst hue
        rw [eqD_same I fz nz (n + 1) _ _ v h1 h2 r1 r2]
        exact EqAt.same _
      · obtain ⟨a, xs, rfl, a1, a2⟩ := r1
        obtain ⟨b, ys, rfl, b1, b2⟩ := r2
        cases q1
        cases q2
        obtain ⟨its, t1, t2, _⟩ := I.list (.inl (fz.rd nz a1))
        obtain ⟨its2, t3, t4, _⟩ := I.list (.inl (fz.rd nz b1))
        have l1 : its.toArray.size = ds.length := by rw [List.size_toArray, ← t1.length, rpl_len a2]
        have l2 : its2.toArray.size = es.length := by rw [List.size_toArray, ← t3.length, rpl_len b2]
        show EqAt A s _ _ (eqL ds es)
        by_cases hl : ds.length = es.length
        · rw [eqL_all ds es hl, ← l1]
          exact EqAt.of_refs (fun z => hab (by rw [z])) (RcAt.lists t2.isList t4.isList (by omega) hu0 (items_eq ih h1 h2 a2 b2 t1 t3 hu))
        · rw [eqL_ne hl]
          exact EqAt.of_refs (fun z => hab (by rw [z])) (RcAt.lists_lengths t2.isList t4.isList (by simp only [bne_iff_ne]; omega) hu0)
    case tup.tup ds es =>
      by_cases hab : v = w
      · subst hab
        have hue : u = u' := by
          obtain ⟨a, xs, rfl, _⟩ := r1
          rw [show u = Value.ref a from q1, show u' = Value.ref a from q2]
        subst hue
        rw [eqD_same I fz nz (n + 1) _ _ v h1 h2 r1 r2]
        exact EqAt.same _
      · obtain ⟨a, xs, rfl, a1, a2⟩ := r1
        obtain ⟨b, ys, rfl, b1, b2⟩ := r2
        cases q1
        cases q2
        obtain ⟨its, t1, t2, _⟩ := I.tuple (sqT_mono fz nz a1)
        obtain ⟨its2, t3, t4, _⟩ := I.tuple (sqT_mono fz nz b1)
        have l1 : its.toArray.size = ds.length := by rw [List.size_toArray, ← t1.length, rpl_len a2]
        have l2 : its2.toArray.size = es.length := by rw [List.size_toArray, ← t3.length, rpl_len b2]
        have main := RcAt.tuples t2 t4 hu0 (items_eq ih h1 h2 a2 b2 t1 t3 hu)
        have key : ((List.range (min its.toArray.size its2.toArray.size)).all (fun j => eqD (ds.getD j .non) (es.getD j .non)) && its.toArray.size == its2.toArray.size) = eqL ds es := by
          by_cases hl : ds.length = es.length
          · rw [eqL_all ds es hl, l1, l2, hl]
            simp
          · rw [eqL_ne hl, l1, l2]
            simp [hl]
        rw [key] at main
        exact EqAt.of_refs (fun z => hab (by rw [z])) main
    case lst.tup ds es =>
      obtain ⟨a, xs, rfl, a1, a2⟩ := r1
      obtain ⟨b, ys, rfl, b1, b2⟩ := r2
      cases q1
      cases q2
      obtain ⟨its, t1, t2, _⟩ := I.list (.inl (fz.rd nz a1))
      obtain ⟨its2, t3, t4, _⟩ := I.tuple (sqT_mono fz nz b1)
      exact EqAt.list_tuple t2.isList t4 hu0
    case tup.lst ds es =>
      obtain ⟨a, xs, rfl, a1, a2⟩ := r1
      obtain ⟨b, ys, rfl, b1, b2⟩ := r2
      cases q1
      cases q2
      obtain ⟨its, t1, t2, _⟩ := I.tuple (sqT_mono fz nz a1)
      obtain ⟨its2, t3, t4, _⟩ := I.list (.inl (fz.rd nz b1))
      exact EqAt.tuple_list t2 t4.isList hu0
    case lst.non => exact lstf r1 rfl r2 q1 q2
    case lst.bl => exact lstf r1 rfl r2 q1 q2
    case lst.int => exact lstf r1 rfl r2 q1 q2
    case lst.str => exact lstf r1 rfl r2 q1 q2
    case tup.non => exact tupf r1 rfl r2 q1 q2
    case tup.bl => exact tupf r1 rfl r2 q1 q2
    case tup.int => exact tupf r1 rfl r2 q1 q2
    case tup.str => exact tupf r1 rfl r2 q1 q2
    case non.lst => exact flst r1 rfl r2 q1 q2
    case bl.lst => exact flst r1 rfl r2 q1 q2
    case int.lst => exact flst r1 rfl r2 q1 q2
    case str.lst => exact flst r1 rfl r2 q1 q2
    case non.tup => exact ftup r1 rfl r2 q1 q2
    case bl.tup => exact ftup r1 rfl r2 q1 q2
    case int.tup => exact ftup r1 rfl r2 q1 q2
    case str.tup => exact ftup r1 rfl r2 q1 q2
    all_goals (have z1 := (show v = _ from r1); have z2 := (show w = _ from r2); subst z1 z2; exact flat A _ _ _ _ _ _ q1 q2 rfl rfl rfl)
end
end DL

/-! DQ: == and != of data, at the top (printed by gen_eq.py, own work). -/
namespace DL
open PySem L2 PySem.SeqAt
section
variable {X : Cx} {pins : List (Addr × Obj)} {sg : L2.St} {H G : Hp} {s : Shared}

theorem rc_flat {A : Around} : ∀ {v w : V} {u u' : Value}, RelV v u → RelV w u' → flatV v = true → flatV w = true → RcAt A s u u' (eqV v w)
  | .non, .non, u, u', r1, r2, _, _ => by
    cases r1
    cases r2
    exact RcAt.none_none
  | .non, .bl b2, u, u', r1, r2, _, _ => by
    cases r1
    cases r2
    exact RcAt.none_bool b2
  | .non, .int i2, u, u', r1, r2, _, _ => by
    cases r1
    obtain ⟨t2, rfl⟩ := r2
    exact RcAt.none_int i2 t2
  | .non, .str z2, u, u', r1, r2, _, _ => by
    cases r1
    obtain ⟨t2, rfl⟩ := r2
    exact RcAt.none_str z2 t2
  | .bl b1, .non, u, u', r1, r2, _, _ => by
    cases r1
    cases r2
    exact RcAt.bool_none b1
  | .bl b1, .bl b2, u, u', r1, r2, _, _ => by
    cases r1
    cases r2
    exact RcAt.bool_bool b1 b2
  | .bl b1, .int i2, u, u', r1, r2, _, _ => by
    cases r1
    obtain ⟨t2, rfl⟩ := r2
    exact RcAt.bool_int b1 i2 t2
  | .bl b1, .str z2, u, u', r1, r2, _, _ => by
    cases r1
    obtain ⟨t2, rfl⟩ := r2
    exact RcAt.bool_str b1 z2 t2
  | .int i1, .non, u, u', r1, r2, _, _ => by
    obtain ⟨t1, rfl⟩ := r1
    cases r2
    exact RcAt.int_none i1 t1
  | .int i1, .bl b2, u, u', r1, r2, _, _ => by
    obtain ⟨t1, rfl⟩ := r1
    cases r2
    exact RcAt.int_bool i1 t1 b2
  | .int i1, .int i2, u, u', r1, r2, _, _ => by
    obtain ⟨t1, rfl⟩ := r1
    obtain ⟨t2, rfl⟩ := r2
    exact RcAt.int_int i1 t1 i2 t2
  | .int i1, .str z2, u, u', r1, r2, _, _ => by
    obtain ⟨t1, rfl⟩ := r1
    obtain ⟨t2, rfl⟩ := r2
    exact RcAt.int_str i1 t1 z2 t2
  | .str z1, .non, u, u', r1, r2, _, _ => by
    obtain ⟨t1, rfl⟩ := r1
    cases r2
    exact RcAt.str_none z1 t1
  | .str z1, .bl b2, u, u', r1, r2, _, _ => by
    obtain ⟨t1, rfl⟩ := r1
    cases r2
    exact RcAt.str_bool z1 t1 b2
  | .str z1, .int i2, u, u', r1, r2, _, _ => by
    obtain ⟨t1, rfl⟩ := r1
    obtain ⟨t2, rfl⟩ := r2
    exact RcAt.str_int z1 t1 i2 t2
  | .str z1, .str z2, u, u', r1, r2, _, _ => by
    obtain ⟨t1, rfl⟩ := r1
    obtain ⟨t2, rfl⟩ := r2
    exact RcAt.str_str z1 t1 z2 t2
  | .byt _, _, _, _, _, _, f, _ => absurd f Bool.false_ne_true
  | .flt _, _, _, _, _, _, f, _ => absurd f Bool.false_ne_true
  | .ref _, _, _, _, _, _, f, _ => absurd f Bool.false_ne_true
  | .ty _, _, _, _, _, _, f, _ => absurd f Bool.false_ne_true
  | .non, .byt _, _, _, _, _, _, f => absurd f Bool.false_ne_true
  | .bl _, .byt _, _, _, _, _, _, f => absurd f Bool.false_ne_true
  | .int _, .byt _, _, _, _, _, _, f => absurd f Bool.false_ne_true
  | .str _, .byt _, _, _, _, _, _, f => absurd f Bool.false_ne_true
  | .non, .flt _, _, _, _, _, _, f => absurd f Bool.false_ne_true
  | .bl _, .flt _, _, _, _, _, _, f => absurd f Bool.false_ne_true
  | .int _, .flt _, _, _, _, _, _, f => absurd f Bool.false_ne_true
  | .str _, .flt _, _, _, _, _, _, f => absurd f Bool.false_ne_true
  | .non, .ref _, _, _, _, _, _, f => absurd f Bool.false_ne_true
  | .bl _, .ref _, _, _, _, _, _, f => absurd f Bool.false_ne_true
  | .int _, .ref _, _, _, _, _, _, f => absurd f Bool.false_ne_true
  | .str _, .ref _, _, _, _, _, _, f => absurd f Bool.false_ne_true
  | .non, .ty _, _, _, _, _, _, f => absurd f Bool.false_ne_true
  | .bl _, .ty _, _, _, _, _, _, f => absurd f Bool.false_ne_true
  | .int _, .ty _, _, _, _, _, _, f => absurd f Bool.false_ne_true
  | .str _, .ty _, _, _, _, _, _, f => absurd f Bool.false_ne_true
theorem rc_list {A : Around} {a : Addr} {its : Array Value} (h : s.heap.IsList a its) (hu : A.units < cLine) : ∀ {w : V} {u : Value}, RelV w u → flatV w = true → RcAt A s (.ref a) u false ∧ RcAt A s u (.ref a) false
  | .non, u, r, _ => by
    cases r
    exact ⟨RcAt.list_none h hu, RcAt.none_list h hu⟩
  | .bl b2, u, r, _ => by
    cases r
    exact ⟨RcAt.list_bool b2 h hu, RcAt.bool_list b2 h hu⟩
  | .int i2, u, r, _ => by
    obtain ⟨t2, rfl⟩ := r
    exact ⟨RcAt.list_int i2 t2 h hu, RcAt.int_list i2 t2 h hu⟩
  | .str z2, u, r, _ => by
    obtain ⟨t2, rfl⟩ := r
    exact ⟨RcAt.list_str z2 t2 h hu, RcAt.str_list z2 t2 h hu⟩
  | .byt _, _, _, f => absurd f Bool.false_ne_true
  | .flt _, _, _, f => absurd f Bool.false_ne_true
  | .ref _, _, _, f => absurd f Bool.false_ne_true
  | .ty _, _, _, f => absurd f Bool.false_ne_true
theorem rc_tuple {A : Around} {a : Addr} {its : Array Value} (h : s.heap.IsTuple a its) (hu : A.units < cLine) : ∀ {w : V} {u : Value}, RelV w u → flatV w = true → RcAt A s (.ref a) u false ∧ RcAt A s u (.ref a) false
  | .non, u, r, _ => by
    cases r
    exact ⟨RcAt.tuple_none h hu, RcAt.none_tuple h hu⟩
  | .bl b2, u, r, _ => by
    cases r
    exact ⟨RcAt.tuple_bool b2 h hu, RcAt.bool_tuple b2 h hu⟩
  | .int i2, u, r, _ => by
    obtain ⟨t2, rfl⟩ := r
    exact ⟨RcAt.tuple_int i2 t2 h hu, RcAt.int_tuple i2 t2 h hu⟩
  | .str z2, u, r, _ => by
    obtain ⟨t2, rfl⟩ := r
    exact ⟨RcAt.tuple_str z2 t2 h hu, RcAt.str_tuple z2 t2 h hu⟩
  | .byt _, _, _, f => absurd f Bool.false_ne_true
  | .flt _, _, _, f => absurd f Bool.false_ne_true
  | .ref _, _, _, f => absurd f Bool.false_ne_true
  | .ty _, _, _, f => absurd f Bool.false_ne_true
theorem rc_D (I : Inv X pins sg H s) (fz : Exz G H) (nz : Nz G) (n : Nat) (d e : D) (A : Around) (v w : V) (u u' : Value) (h1 : pl (n + 1) d = true) (h2 : pl (n + 1) e = true) (r1 : Rp X.K G d v) (r2 : Rp X.K G e w) (q1 : RelV v u) (q2 : RelV w u') (hu : A.units + (n + 1) < cLine) : RcAt A s u u' (eqD d e) := by
  have hu0 : A.units < cLine := by omega
  have ih := eqAt_D (X := X) I fz nz n
  have lstf : ∀ {ds : List D} {e : D}, Rp X.K G (.lst ds) v → fl e = true → Rp X.K G e w → RcAt A s u u' false := fun {ds e} r1 f r2 => by
    obtain ⟨a, xs, rfl, a1, a2⟩ := r1
    cases q1
    obtain ⟨its, t1, t2, _⟩ := I.list (.inl (fz.rd nz a1))
    exact (rc_list t2.isList hu0 q2 (fl_v f r2)).1
  have tupf : ∀ {ds : List D} {e : D}, Rp X.K G (.tup ds) v → fl e = true → Rp X.K G e w → RcAt A s u u' false := fun {ds e} r1 f r2 => by
    obtain ⟨a, xs, rfl, a1, a2⟩ := r1
    cases q1
    obtain ⟨its, t1, t2, _⟩ := I.tuple (sqT_mono fz nz a1)
    exact (rc_tuple t2 hu0 q2 (fl_v f r2)).1
  have flst : ∀ {ds : List D} {e : D}, Rp X.K G e v → fl e = true → Rp X.K G (.lst ds) w → RcAt A s u u' false := fun {ds e} r1 f r2 => by
    obtain ⟨a, xs, rfl, a1, a2⟩ := r2
    cases q2
    obtain ⟨its, t1, t2, _⟩ := I.list (.inl (fz.rd nz a1))
    exact (rc_list t2.isList hu0 q1 (fl_v f r1)).2
  have ftup : ∀ {ds : List D} {e : D}, Rp X.K G e v → fl e = true → Rp X.K G (.tup ds) w → RcAt A s u u' false := fun {ds e} r1 f r2 => by
    obtain ⟨a, xs, rfl, a1, a2⟩ := r2
    cases q2
    obtain ⟨its, t1, t2, _⟩ := I.tuple (sqT_mono fz nz a1)
    exact (rc_tuple t2 hu0 q1 (fl_v f r1)).2
  have flat : ∀ {d e : D}, fl d = true → fl e = true → Rp X.K G d v → Rp X.K G e w → RcAt A s u u' (eqD d e) := fun {d e} f1 f2 r1 r2 => by
    have z := rc_flat (A := A) (s := s) q1 q2 (fl_v f1 r1) (fl_v f2 r2)
    rw [fl_eq f1 f2 r1 r2] at z
    exact z
  cases d <;> first | (exact absurd h1 Bool.false_ne_true) | skip
  all_goals cases e <;> first | (exact absurd h2 Bool.false_ne_true) | skip
  case lst.lst ds es =>
    obtain ⟨a, xs, rfl, a1, a2⟩ := r1
    obtain ⟨b, ys, rfl, b1, b2⟩ := r2
    cases q1
    cases q2
    obtain ⟨its, t1, t2, _⟩ := I.list (.inl (fz.rd nz a1))
    obtain ⟨its2, t3, t4, _⟩ := I.list (.inl (fz.rd nz b1))
    have l1 : its.toArray.size = ds.length := by rw [List.size_toArray, ← t1.length, rpl_len a2]
    have l2 : its2.toArray.size = es.length := by rw [List.size_toArray, ← t3.length, rpl_len b2]
    show RcAt A s _ _ (eqL ds es)
    by_cases hl : ds.length = es.length
    · rw [eqL_all ds es hl, ← l1]
      exact RcAt.lists t2.isList t4.isList (by omega) hu0 (items_eq ih h1 h2 a2 b2 t1 t3 hu)
    · rw [eqL_ne hl]
      exact RcAt.lists_lengths t2.isList t4.isList (by simp only [bne_iff_ne]; omega) hu0
  case tup.tup ds es =>
    obtain ⟨a, xs, rfl, a1, a2⟩ := r1
    obtain ⟨b, ys, rfl, b1, b2⟩ := r2
    cases q1
    cases q2
    obtain ⟨its, t1, t2, _⟩ := I.tuple (sqT_mono fz nz a1)
    obtain ⟨its2, t3, t4, _⟩ := I.tuple (sqT_mono fz nz b1)
    have l1 : its.toArray.size = ds.length := by rw [List.size_toArray, ← t1.length, rpl_len a2]
    have l2 : its2.toArray.size = es.length := by rw [List.size_toArray, ← t3.length, rpl_len b2]
    have main := RcAt.tuples t2 t4 hu0 (items_eq ih h1 h2 a2 b2 t1 t3 hu)
    have key : ((List.range (min its.toArray.size its2.toArray.size)).all (fun j => eqD (ds.getD j .non) (es.getD j .non)) && its.toArray.size == its2.toArray.size) = eqL ds es := by
      by_cases hl : ds.length = es.length
      · rw [eqL_all ds es hl, l1, l2, hl]
        simp
      · rw [eqL_ne hl, l1, l2]
        simp [hl]
    rw [key] at main
    exact main
  case lst.tup ds es =>
    obtain ⟨a, xs, rfl, a1, a2⟩ := r1
    obtain ⟨b, ys, rfl, b1, b2⟩ := r2
    cases q1
    cases q2
    obtain ⟨its, t1, t2, _⟩ := I.list (.inl (fz.rd nz a1))
    obtain ⟨its2, t3, t4, _⟩ := I.tuple (sqT_mono fz nz b1)
    exact RcAt.list_tuple t2.isList t4 hu0
  case tup.lst ds es =>
    obtain ⟨a, xs, rfl, a1, a2⟩ := r1
    obtain ⟨b, ys, rfl, b1, b2⟩ := r2
    cases q1
    cases q2
    obtain ⟨its, t1, t2, _⟩ := I.tuple (sqT_mono fz nz a1)
    obtain ⟨its2, t3, t4, _⟩ := I.list (.inl (fz.rd nz b1))
    exact RcAt.tuple_list t2 t4.isList hu0
  case lst.non => exact lstf r1 rfl r2
  case tup.non => exact tupf r1 rfl r2
  case non.lst => exact flst r1 rfl r2
  case non.tup => exact ftup r1 rfl r2
  case lst.bl => exact lstf r1 rfl r2
  case tup.bl => exact tupf r1 rfl r2
  case bl.lst => exact flst r1 rfl r2
  case bl.tup => exact ftup r1 rfl r2
  case lst.int => exact lstf r1 rfl r2
  case tup.int => exact tupf r1 rfl r2
  case int.lst => exact flst r1 rfl r2
  case int.tup => exact ftup r1 rfl r2
  case lst.str => exact lstf r1 rfl r2
  case tup.str => exact tupf r1 rfl r2
  case str.lst => exact flst r1 rfl r2
  case str.tup => exact ftup r1 rfl r2
  all_goals exact flat rfl rfl r1 r2
theorem rn_flat {A : Around} : ∀ {v w : V} {u u' : Value}, RelV v u → RelV w u' → flatV v = true → flatV w = true → RcNeAt A s u u' (!eqV v w)
  | .non, .non, u, u', r1, r2, _, _ => by
    cases r1
    cases r2
    exact RcNeAt.none_none
  | .non, .bl b2, u, u', r1, r2, _, _ => by
    cases r1
    cases r2
    exact RcNeAt.none_bool b2
  | .non, .int i2, u, u', r1, r2, _, _ => by
    cases r1
    obtain ⟨t2, rfl⟩ := r2
    exact RcNeAt.none_int i2 t2
  | .non, .str z2, u, u', r1, r2, _, _ => by
    cases r1
    obtain ⟨t2, rfl⟩ := r2
    exact RcNeAt.none_str z2 t2
  | .bl b1, .non, u, u', r1, r2, _, _ => by
    cases r1
    cases r2
    exact RcNeAt.bool_none b1
  | .bl b1, .bl b2, u, u', r1, r2, _, _ => by
    cases r1
    cases r2
    exact RcNeAt.bool_bool b1 b2
  | .bl b1, .int i2, u, u', r1, r2, _, _ => by
    cases r1
    obtain ⟨t2, rfl⟩ := r2
    exact RcNeAt.bool_int b1 i2 t2
  | .bl b1, .str z2, u, u', r1, r2, _, _ => by
    cases r1
    obtain ⟨t2, rfl⟩ := r2
    exact RcNeAt.bool_str b1 z2 t2
  | .int i1, .non, u, u', r1, r2, _, _ => by
    obtain ⟨t1, rfl⟩ := r1
    cases r2
    exact RcNeAt.int_none i1 t1
  | .int i1, .bl b2, u, u', r1, r2, _, _ => by
    obtain ⟨t1, rfl⟩ := r1
    cases r2
    exact RcNeAt.int_bool i1 t1 b2
  | .int i1, .int i2, u, u', r1, r2, _, _ => by
    obtain ⟨t1, rfl⟩ := r1
    obtain ⟨t2, rfl⟩ := r2
    exact RcNeAt.int_int i1 t1 i2 t2
  | .int i1, .str z2, u, u', r1, r2, _, _ => by
    obtain ⟨t1, rfl⟩ := r1
    obtain ⟨t2, rfl⟩ := r2
    exact RcNeAt.int_str i1 t1 z2 t2
  | .str z1, .non, u, u', r1, r2, _, _ => by
    obtain ⟨t1, rfl⟩ := r1
    cases r2
    exact RcNeAt.str_none z1 t1
  | .str z1, .bl b2, u, u', r1, r2, _, _ => by
    obtain ⟨t1, rfl⟩ := r1
    cases r2
    exact RcNeAt.str_bool z1 t1 b2
  | .str z1, .int i2, u, u', r1, r2, _, _ => by
    obtain ⟨t1, rfl⟩ := r1
    obtain ⟨t2, rfl⟩ := r2
    exact RcNeAt.str_int z1 t1 i2 t2
  | .str z1, .str z2, u, u', r1, r2, _, _ => by
    obtain ⟨t1, rfl⟩ := r1
    obtain ⟨t2, rfl⟩ := r2
    exact RcNeAt.str_str z1 t1 z2 t2
  | .byt _, _, _, _, _, _, f, _ => absurd f Bool.false_ne_true
  | .flt _, _, _, _, _, _, f, _ => absurd f Bool.false_ne_true
  | .ref _, _, _, _, _, _, f, _ => absurd f Bool.false_ne_true
  | .ty _, _, _, _, _, _, f, _ => absurd f Bool.false_ne_true
  | .non, .byt _, _, _, _, _, _, f => absurd f Bool.false_ne_true
  | .bl _, .byt _, _, _, _, _, _, f => absurd f Bool.false_ne_true
  | .int _, .byt _, _, _, _, _, _, f => absurd f Bool.false_ne_true
  | .str _, .byt _, _, _, _, _, _, f => absurd f Bool.false_ne_true
  | .non, .flt _, _, _, _, _, _, f => absurd f Bool.false_ne_true
  | .bl _, .flt _, _, _, _, _, _, f => absurd f Bool.false_ne_true
  | .int _, .flt _, _, _, _, _, _, f => absurd f Bool.false_ne_true
  | .str _, .flt _, _, _, _, _, _, f => absurd f Bool.false_ne_true
  | .non, .ref _, _, _, _, _, _, f => absurd f Bool.false_ne_true
  | .bl _, .ref _, _, _, _, _, _, f => absurd f Bool.false_ne_true
  | .int _, .ref _, _, _, _, _, _, f => absurd f Bool.false_ne_true
  | .str _, .ref _, _, _, _, _, _, f => absurd f Bool.false_ne_true
  | .non, .ty _, _, _, _, _, _, f => absurd f Bool.false_ne_true
  | .bl _, .ty _, _, _, _, _, _, f => absurd f Bool.false_ne_true
  | .int _, .ty _, _, _, _, _, _, f => absurd f Bool.false_ne_true
  | .str _, .ty _, _, _, _, _, _, f => absurd f Bool.false_ne_true
theorem rn_list {A : Around} {a : Addr} {its : Array Value} (h : s.heap.IsList a its) (hu : A.units < cLine) : ∀ {w : V} {u : Value}, RelV w u → flatV w = true → RcNeAt A s (.ref a) u true ∧ RcNeAt A s u (.ref a) true
  | .non, u, r, _ => by
    cases r
    exact ⟨RcNeAt.list_none h hu, RcNeAt.none_list h hu⟩
  | .bl b2, u, r, _ => by
    cases r
    exact ⟨RcNeAt.list_bool b2 h hu, RcNeAt.bool_list b2 h hu⟩
  | .int i2, u, r, _ => by
    obtain ⟨t2, rfl⟩ := r
    exact ⟨RcNeAt.list_int i2 t2 h hu, RcNeAt.int_list i2 t2 h hu⟩
  | .str z2, u, r, _ => by
    obtain ⟨t2, rfl⟩ := r
    exact ⟨RcNeAt.list_str z2 t2 h hu, RcNeAt.str_list z2 t2 h hu⟩
  | .byt _, _, _, f => absurd f Bool.false_ne_true
  | .flt _, _, _, f => absurd f Bool.false_ne_true
  | .ref _, _, _, f => absurd f Bool.false_ne_true
  | .ty _, _, _, f => absurd f Bool.false_ne_true
theorem rn_tuple {A : Around} {a : Addr} {its : Array Value} (h : s.heap.IsTuple a its) (hu : A.units < cLine) : ∀ {w : V} {u : Value}, RelV w u → flatV w = true → RcNeAt A s (.ref a) u true ∧ RcNeAt A s u (.ref a) true
  | .non, u, r, _ => by
    cases r
    exact ⟨RcNeAt.tuple_none h hu, RcNeAt.none_tuple h hu⟩
  | .bl b2, u, r, _ => by
    cases r
    exact ⟨RcNeAt.tuple_bool b2 h hu, RcNeAt.bool_tuple b2 h hu⟩
  | .int i2, u, r, _ => by
    obtain ⟨t2, rfl⟩ := r
    exact ⟨RcNeAt.tuple_int i2 t2 h hu, RcNeAt.int_tuple i2 t2 h hu⟩
  | .str z2, u, r, _ => by
    obtain ⟨t2, rfl⟩ := r
    exact ⟨RcNeAt.tuple_str z2 t2 h hu, RcNeAt.str_tuple z2 t2 h hu⟩
  | .byt _, _, _, f => absurd f Bool.false_ne_true
  | .flt _, _, _, f => absurd f Bool.false_ne_true
  | .ref _, _, _, f => absurd f Bool.false_ne_true
  | .ty _, _, _, f => absurd f Bool.false_ne_true
theorem rn_D (I : Inv X pins sg H s) (fz : Exz G H) (nz : Nz G) (n : Nat) (d e : D) (A : Around) (v w : V) (u u' : Value) (h1 : pl (n + 1) d = true) (h2 : pl (n + 1) e = true) (r1 : Rp X.K G d v) (r2 : Rp X.K G e w) (q1 : RelV v u) (q2 : RelV w u') (hu : A.units + (n + 1) < cLine) : RcNeAt A s u u' (!eqD d e) := by
  have hu0 : A.units < cLine := by omega
  have ih := eqAt_D (X := X) I fz nz n
  have lstf : ∀ {ds : List D} {e : D}, Rp X.K G (.lst ds) v → fl e = true → Rp X.K G e w → RcNeAt A s u u' true := fun {ds e} r1 f r2 => by
    obtain ⟨a, xs, rfl, a1, a2⟩ := r1
    cases q1
    obtain ⟨its, t1, t2, _⟩ := I.list (.inl (fz.rd nz a1))
    exact (rn_list t2.isList hu0 q2 (fl_v f r2)).1
  have tupf : ∀ {ds : List D} {e : D}, Rp X.K G (.tup ds) v → fl e = true → Rp X.K G e w → RcNeAt A s u u' true := fun {ds e} r1 f r2 => by
    obtain ⟨a, xs, rfl, a1, a2⟩ := r1
    cases q1
    obtain ⟨its, t1, t2, _⟩ := I.tuple (sqT_mono fz nz a1)
    exact (rn_tuple t2 hu0 q2 (fl_v f r2)).1
  have flst : ∀ {ds : List D} {e : D}, Rp X.K G e v → fl e = true → Rp X.K G (.lst ds) w → RcNeAt A s u u' true := fun {ds e} r1 f r2 => by
    obtain ⟨a, xs, rfl, a1, a2⟩ := r2
    cases q2
    obtain ⟨its, t1, t2, _⟩ := I.list (.inl (fz.rd nz a1))
    exact (rn_list t2.isList hu0 q1 (fl_v f r1)).2
  have ftup : ∀ {ds : List D} {e : D}, Rp X.K G e v → fl e = true → Rp X.K G (.tup ds) w → RcNeAt A s u u' true := fun {ds e} r1 f r2 => by
    obtain ⟨a, xs, rfl, a1, a2⟩ := r2
    cases q2
    obtain ⟨its, t1, t2, _⟩ := I.tuple (sqT_mono fz nz a1)
    exact (rn_tuple t2 hu0 q1 (fl_v f r1)).2
  have flat : ∀ {d e : D}, fl d = true → fl e = true → Rp X.K G d v → Rp X.K G e w → RcNeAt A s u u' (!eqD d e) := fun {d e} f1 f2 r1 r2 => by
    have z := rn_flat (A := A) (s := s) q1 q2 (fl_v f1 r1) (fl_v f2 r2)
    rw [fl_eq f1 f2 r1 r2] at z
    exact z
  cases d <;> first | (exact absurd h1 Bool.false_ne_true) | skip
  all_goals cases e <;> first | (exact absurd h2 Bool.false_ne_true) | skip
  case lst.lst ds es =>
    obtain ⟨a, xs, rfl, a1, a2⟩ := r1
    obtain ⟨b, ys, rfl, b1, b2⟩ := r2
    cases q1
    cases q2
    obtain ⟨its, t1, t2, _⟩ := I.list (.inl (fz.rd nz a1))
    obtain ⟨its2, t3, t4, _⟩ := I.list (.inl (fz.rd nz b1))
    have l1 : its.toArray.size = ds.length := by rw [List.size_toArray, ← t1.length, rpl_len a2]
    have l2 : its2.toArray.size = es.length := by rw [List.size_toArray, ← t3.length, rpl_len b2]
    show RcNeAt A s _ _ (!eqL ds es)
    by_cases hl : ds.length = es.length
    · rw [eqL_all ds es hl, ← l1]
      exact RcNeAt.lists t2.isList t4.isList (by omega) hu0 (items_eq ih h1 h2 a2 b2 t1 t3 hu)
    · rw [eqL_ne hl]
      exact RcNeAt.lists_lengths t2.isList t4.isList (by simp only [bne_iff_ne]; omega) hu0
  case tup.tup ds es =>
    obtain ⟨a, xs, rfl, a1, a2⟩ := r1
    obtain ⟨b, ys, rfl, b1, b2⟩ := r2
    cases q1
    cases q2
    obtain ⟨its, t1, t2, _⟩ := I.tuple (sqT_mono fz nz a1)
    obtain ⟨its2, t3, t4, _⟩ := I.tuple (sqT_mono fz nz b1)
    have l1 : its.toArray.size = ds.length := by rw [List.size_toArray, ← t1.length, rpl_len a2]
    have l2 : its2.toArray.size = es.length := by rw [List.size_toArray, ← t3.length, rpl_len b2]
    have main := RcNeAt.tuples t2 t4 hu0 (items_eq ih h1 h2 a2 b2 t1 t3 hu)
    have key : ((List.range (min its.toArray.size its2.toArray.size)).all (fun j => eqD (ds.getD j .non) (es.getD j .non)) && its.toArray.size == its2.toArray.size) = eqL ds es := by
      by_cases hl : ds.length = es.length
      · rw [eqL_all ds es hl, l1, l2, hl]
        simp
      · rw [eqL_ne hl, l1, l2]
        simp [hl]
    rw [key] at main
    exact main
  case lst.tup ds es =>
    obtain ⟨a, xs, rfl, a1, a2⟩ := r1
    obtain ⟨b, ys, rfl, b1, b2⟩ := r2
    cases q1
    cases q2
    obtain ⟨its, t1, t2, _⟩ := I.list (.inl (fz.rd nz a1))
    obtain ⟨its2, t3, t4, _⟩ := I.tuple (sqT_mono fz nz b1)
    exact RcNeAt.list_tuple t2.isList t4 hu0
  case tup.lst ds es =>
    obtain ⟨a, xs, rfl, a1, a2⟩ := r1
    obtain ⟨b, ys, rfl, b1, b2⟩ := r2
    cases q1
    cases q2
    obtain ⟨its, t1, t2, _⟩ := I.tuple (sqT_mono fz nz a1)
    obtain ⟨its2, t3, t4, _⟩ := I.list (.inl (fz.rd nz b1))
    exact RcNeAt.tuple_list t2 t4.isList hu0
  case lst.non => exact lstf r1 rfl r2
  case tup.non => exact tupf r1 rfl r2
  case non.lst => exact flst r1 rfl r2
  case non.tup => exact ftup r1 rfl r2
  case lst.bl => exact lstf r1 rfl r2
  case tup.bl => exact tupf r1 rfl r2
  case bl.lst => exact flst r1 rfl r2
  case bl.tup => exact ftup r1 rfl r2
  case lst.int => exact lstf r1 rfl r2
  case tup.int => exact tupf r1 rfl r2
  case int.lst => exact flst r1 rfl r2
  case int.tup => exact ftup r1 rfl r2
  case lst.str => exact lstf r1 rfl r2
  case tup.str => exact tupf r1 rfl r2
  case str.lst => exact flst r1 rfl r2
  case str.tup => exact ftup r1 rfl r2
  all_goals exact flat rfl rfl r1 r2
/-- == and != of plain data -/
def rEqP (K : PySem.W.Frag) (neg : Bool) : R2 := fun x y H Q => ∃ (n : Nat) (G : Hp) (d e : D), Exz G H ∧ Nz G ∧ n ≤ 60 ∧ pl (n + 1) d = true ∧ pl (n + 1) e = true ∧ Rp K G d x ∧ Rp K G e y ∧ Q (.bl (if neg then !eqD d e else eqD d e)) H
theorem op_eqP (hu : X.A.units + 64 < cLine) : OpR X (compareOp .Eq) (rEqP X.K false) := by
  intro pins s sg H x y v u Q I rx ry h
  obtain ⟨n, G, d, e, fz, nz, hn, p1, p2, r1, r2, q⟩ := h
  exact rc_D I fz nz n d e X.A x y v u p1 p2 r1 r2 rx ry (by omega) X.prog X.w X.xe _ ⟨.bl _, H, I, rfl, q⟩
theorem op_neP (hu : X.A.units + 64 < cLine) : OpR X (compareOp .NotEq) (rEqP X.K true) := by
  intro pins s sg H x y v u Q I rx ry h
  obtain ⟨n, G, d, e, fz, nz, hn, p1, p2, r1, r2, q⟩ := h
  exact rn_D I fz nz n d e X.A x y v u p1 p2 r1 r2 rx ry (by omega) X.prog X.w X.xe _ ⟨.bl _, H, I, rfl, q⟩
end
/-! ### by data -/
/-- w stands for the plain data d -/
inductive Pk (ka : Cells) : W → D → Prop where
  | v {d} : Pk ka (.val d) d
  | w {d} : Pk ka (.vw d) d
  | c {a ds} (j : Nat) (h : ka[j]? = some (a, .lst ds)) : Pk ka (.val (.adr a)) (.lst ds)
section
variable {K : PySem.W.Frag} {B F F0 : Hp} {ro : Ro} {ka : Cells} {ta : List (V × W)} {sg : L2.St} {H : Hp} {x y : W}
/-- what may be read with the cells' lists beside -/
def gH (H : Hp) : Hp := fun a => match H a with
  | some (.frz _ u) => if lk u then some u else none
  | z => z
theorem gH_nz : Nz (gH H) := fun a u h => by
  unfold gH at h
  split at h
  · split at h
    · rename_i hx
      cases h
      cases u <;> first | rfl | cases hx
    · cases h
  · rename_i z q
    cases u with
    | frz ob z => exact absurd h (q ob z)
    | _ => rfl
theorem gH_exz : Exz (gH H) H := fun a u h => by
  unfold gH at h
  split at h
  · rename_i ob x q
    split at h
    · rename_i hx
      cases h
      exact .inr ⟨hx, ob, q⟩
    · cases h
  · exact .inl h
theorem exz_gH {G : Hp} (e : Exz G H) (n : Nz G) : Exz G (gH H) := fun a u h => by
  refine .inl ?_
  have hu := n a u h
  unfold gH
  rcases e a u h with q | ⟨k, o, q⟩
  · rw [q]
    cases u with
    | frz o z => cases hu
    | _ => rfl
  · rw [q]
    show (if lk u then some u else none) = some u
    rw [k]
    rfl
theorem Pk.get {d : D} {v : V} (l : Pk ka x d) (e : EnF K B F ro ka ta sg H) (h : WOk K B F v x) : Rp K (gH H) d v := by
  cases l with
  | v => exact Rp.mono (exz_gH e.fz e.nz) e.nz d v h
  | w => exact Rp.mono (exz_gH (uni_exz e.fz e.fr) (uni_nz e.nz)) (uni_nz e.nz) d v h
  | @c a ds j hj =>
    obtain ⟨_, _, xs, h1, h2⟩ := e.ce _ (List.mem_of_getElem? hj)
    have hv : v = .ref a := h
    refine ⟨a, xs, hv, .inl ?_, RpL.mono (exz_gH e.fz e.nz) e.nz _ _ h2⟩
    unfold gH
    rw [h1]
theorem rv_eqP {d e : D} (l1 : Pk ka x d) (l2 : Pk ka y e) (p1 : pl 61 d = true) (p2 : pl 61 e = true) : RvD K (rEqP K false) ka x y (.val (.bl (eqD d e))) := fun B F0 ro ta sg H u v Q en h1 h2 q => by
  obtain ⟨F, g, ef⟩ := id en
  exact ⟨60, gH H, d, e, gH_exz, gH_nz, Nat.le_refl _, p1, p2, l1.get ef (ef.tm _ h1), l2.get ef (ef.tm _ h2), q _ _ (en.push_imm fun _ => rfl)⟩
theorem rv_neP {d e : D} (l1 : Pk ka x d) (l2 : Pk ka y e) (p1 : pl 61 d = true) (p2 : pl 61 e = true) : RvD K (rEqP K true) ka x y (.val (.bl (!eqD d e))) := fun B F0 ro ta sg H u v Q en h1 h2 q => by
  obtain ⟨F, g, ef⟩ := id en
  exact ⟨60, gH H, d, e, gH_exz, gH_nz, Nat.le_refl _, p1, p2, l1.get ef (ef.tm _ h1), l2.get ef (ef.tm _ h2), q _ _ (en.push_imm fun _ => rfl)⟩
end
end DL

/-! DO: operators that a class of the text defines (own work). -/
namespace DL
open PySem L2 PySem.W

section
variable {X : Cx} {CX : CXT} {k : Nat} {C f : Addr} {fd : FuncData} {ps : List Str} {sp : Sp} {E : XK}
/-- the same state, seen from other surroundings of the same frames -/
theorem inv_moved {A : Around} {pins : List (Addr × Obj)} {s : Shared} {sg : L2.St} {H : Hp} (I : L2.Inv X pins sg H s) (hd : X.calm = true → A.handled = none) (ha : A.frames = X.A.frames) : L2.Inv { X with A := A } pins sg H s :=
  { I with ok := { I.ok with hd := hd, frames := ha.trans I.ok.frames } }
/-- a def of the text, called within a built-in's work: the library's run_fn in the surroundings moved there -/
theorem run_fn {A : Around} {pins : List (Addr × Obj)} {s : Shared} {sg : L2.St} {H : Hp} {vs : List V} {us : List Value} {Q : VK} (F : FnOk X.prog X.w X.K X.mg X.base CX k f fd ps sp) (hr : Room k A) (ha : A.frames = X.A.frames)
    (hb : Binds X.K fd ps []) (hx : Passes CX X E) (I : L2.Inv X pins sg H s) (rv : Vals vs us) (h : sp vs H Q E) : wpAny (model X.prog X.w) A (call (.ref f) us) (EP X pins sg Q) X.xe s := by
  have home : ∀ {pn : List (Addr × Obj)} {σ : L2.St} {H0 : Hp} {s0 : Shared}, L2.Inv { X with A := A } pn σ H0 s0 → L2.Inv X pn σ H0 s0 := fun J => inv_moved (X := { X with A := A }) (A := X.A) J I.ok.hd ha.symm
  have there := L2.run_fn (X := { X with A := A }) (dvs := []) (ds := []) (vs := vs) (us := us) (Q := Q) (E := E) F hr hb .nil (fun pn σ H0 s0 e s' J c => hx pn σ H0 s0 e s' (home J) c) (inv_moved I (fun _ => hr.hd) ha) rv (by rw [List.append_nil]; exact h)
  exact wpAny_mono there (fun u s2 ⟨v, H', J, r, q⟩ => ⟨v, H', home J, r, q⟩) fun _ _ z => z
/-- where an instance stands, for the library's rules -/
theorem inst_at {pins : List (Addr × Obj)} {s : Shared} {sg : L2.St} {H : Hp} {a dx : Addr} {fs : List (Str × V)} (I : Inv X pins sg H s) (h : H a = some (.ins C dx fs)) : ∃ od, PySem.W.InstAt s.heap a (PySem.W.instObj C dx) C (some od) := by
  obtain ⟨mA, J, _⟩ := ins_get I.hok h
  obtain ⟨od, J2, _⟩ := J.look
  exact ⟨od, J2⟩
/-- the special method m of the class at C is the def at f -/
structure Sm (K : PySem.W.Frag) (C : Addr) (m : Str) (f : Addr) : Prop where
  at_ : findIn K (.ref C) m = some (some (.ref f))
  fn : isFn K (.ref f) = true
abbrev rOwn1 (C : Addr) (sp : Sp) (E : XK) : V → Hp → VK → Prop := fun x H Q => ∃ a dx fs, x = .ref a ∧ H a = some (.ins C dx fs) ∧ sp [x] H Q E
abbrev rOwn2 (C : Addr) (sp : Sp) (E : XK) : R2 := fun x y H Q => ∃ a dx fs, x = .ref a ∧ H a = some (.ins C dx fs) ∧ sp [x, y] H Q E
theorem un_own (m : Sm X.K C "__neg__" f) (F : FnOk X.prog X.w X.K X.mg X.base CX k f fd ps sp) (hr : Room k X.A) (hb : Binds X.K fd ps []) (hx : Passes CX X E) : UnR X (unaryOp .USub) (rOwn1 C sp E) := by
  intro pins s sg H x v Q I rx h
  obtain ⟨a, dx, fs, rfl, ha, h⟩ := h
  cases rx
  obtain ⟨od, J⟩ := inst_at I ha
  obtain ⟨m1, hF⟩ := I.fr
  exact ksp_neg hF I.ok.mod.kin J m.at_ m.fn (run_fn F hr rfl hb hx I (.cons (show RelV (.ref a) (.ref a) from rfl) .nil) h)
/-- o[i] by the class's own __getitem__ -/
theorem pe_ownix {o i : Expr} {pos : Pos} {to ti : TE} (m : Sm X.K C "__getitem__" f) (hf : fnIn X.K f = true) (F : FnOk X.prog X.w X.K X.mg X.base CX k f fd ps sp) (hr : Room (k + 1) X.A) (hb : Binds X.K fd ps []) (hx : Passes CX X E) (ho : PE X o to) (hi : PE X i ti)
    (hs : ∀ a u, subscripted i true (.ref a) u = runValue (.builtin "lifetime.subscript" ⟨[.ref a, u], []⟩) := by intro a u; with_unfolding_all rfl) : PE X (.Subscript o i pos) (tOp (rOwn2 C sp E) to ti) := by
  refine ⟨fun pins s sg H Q I h => ?_⟩
  refine PyProof.Rows.Subscript_ (bin ho hi I h fun v u s2 x y H2 I2 rx ry q => ?_)
  obtain ⟨a, dx, fs, rfl, ha, q⟩ := q
  cases rx
  obtain ⟨od, J⟩ := inst_at I2 ha
  obtain ⟨m1, hF⟩ := I2.fr
  exact sub_K hF I2.ok.mod.kin J m.at_ hf m.fn (run_fn F hr.in1 rfl hb hx I2 (.cons (show RelV (.ref a) (.ref a) from rfl) (.cons ry .nil)) q) (hs a u)
theorem len_own (m : Sm X.K C "__len__" f) (F : FnOk X.prog X.w X.K X.mg X.base CX k f fd ps sp) (hr : Room (k + 1) X.A) (hb : Binds X.K fd ps []) (hx : Passes CX X E) :
    CallR X (.builtin "len") (fun xs H Q => ∃ a dx fs, xs = [.ref a] ∧ H a = some (.ins C dx fs) ∧ sp xs H (fun v H' => ∃ n : Nat, v = .int n ∧ n ≤ 100000 ∧ Q v H') E) := by
  intro pins s sg H xs us Q I rv h
  obtain ⟨a, dx, fs, rfl, ha, h⟩ := h
  cases rv with
  | cons r1 r2 =>
  cases r2
  cases r1
  obtain ⟨od, J⟩ := inst_at I ha
  obtain ⟨m1, hF⟩ := I.fr
  refine len_K hF I.ok.mod.kin J m.at_ m.fn (wpAny_mono (run_fn F hr.in1 rfl hb hx I (.cons (show RelV (.ref a) (.ref a) from rfl) .nil) h) (fun u s' hq => ?_) fun _ _ z => z)
  obtain ⟨v, H', I', r, n, rfl, hn, q⟩ := hq
  obtain ⟨t, rfl⟩ := r
  exact ⟨⟨by omega, by omega⟩, .int n, H', I'.tok _, ⟨_, rfl⟩, q⟩
theorem looks_ty {M : Model} {s : Shared} {a : Addr} {T : String} (h : s.TypeIs (.ref a) T) : Looks M s.heap (typeOf (.ref a)) (.type T) := by
  obtain ⟨o, ho, hc⟩ := h
  intro A Q E s2 kp q
  exact wpAny_typeOf_ref (kp _ _ ho) (hc ▸ q)
/-- the type of a value, as the library looks for it -/
def TyL (X : Cx) (x : V) (H : Hp) (T : String) : Prop := ∀ pins s sg u, Inv X pins sg H s → RelV x u → Looks (model X.prog X.w) s.heap (typeOf u) (.type T)
theorem tyl_non {H : Hp} : TyL X .non H "NoneType" := fun _ _ _ u _ r => by cases r; exact Looks.of_pure rfl
theorem tyl_bl {H : Hp} {b : Bool} : TyL X (.bl b) H "bool" := fun _ _ _ u _ r => by cases r; exact Looks.of_pure rfl
theorem tyl_int {H : Hp} {b : Int} : TyL X (.int b) H "int" := fun _ _ _ u _ r => by obtain ⟨t, rfl⟩ := r; exact Looks.of_pure rfl
theorem tyl_str {H : Hp} {b : Str} : TyL X (.str b) H "str" := fun _ _ _ u _ r => by obtain ⟨t, rfl⟩ := r; exact Looks.of_pure rfl
theorem tyl_tup {H : Hp} {a : Addr} {xs : List V} (h : SqT X.K H a xs) : TyL X (.ref a) H "tuple" := fun _ _ _ u I r => by
  cases r
  obtain ⟨its, _, t1, _⟩ := I.tuple h
  exact looks_ty t1.typeIs
theorem tyl_lst {H : Hp} {a : Addr} {xs : List V} (h : SqL X.K H a xs) : TyL X (.ref a) H "list" := fun _ _ _ u I r => by
  cases r
  obtain ⟨its, _, t1, _⟩ := I.list h
  exact looks_ty t1.isList.typeIs
/-- what the text says of a class's own operator, against a value of the built-in type T -/
structure Bo (K : PySem.W.Frag) (C : Addr) (op : Operator) (f : Addr) : Prop where
  first : selfFirst K C = true
  sm : Sm K C (PySem.dunder op.info.2) f
  refl : findIn K (.ref C) (dunderR op.info.2) = some none
structure BoT (K : PySem.W.Frag) (C : Addr) (op : Operator) (T : String) : Prop where
  l : ∃ fo, findIn K (.type T) (PySem.dunder op.info.2) = some fo
  r : ∃ ro, findIn K (.type T) (dunderR op.info.2) = some ro
  sub : subIn K (.type T) (.ref C) = some false
/-- the left operand's method is asked first, and answers: whatever the two operands are -/
theorem left_asked {prog : Program} {w : World} {A : Around} {E : Value → Shared → Prop} {s : Shared} {a b ta tb : Value} {nm : String} {r p : Bool} {ro : Option Value} {R : Option Value → Shared → Prop}
    (la : Looks (model prog w) s.heap (typeOf a) ta) (lb : Looks (model prog w) s.heap (typeOf b) tb) (ne : (ta == tb) = false) (fa : Looks (model prog w) s.heap (fillsNumberSlot ta nm) true)
    (fb : Looks (model prog w) s.heap (fillsNumberSlot tb nm) r) (sb : Looks (model prog w) s.heap (isSubtype tb ta) false) (pa : Looks (model prog w) s.heap (numberSlotInPython ta nm) true)
    (pb : Looks (model prog w) s.heap (numberSlotInPython tb nm) p) (lr : Looks (model prog w) s.heap (typeLookup tb (dunderR nm)) ro)
    (ask : wpAny (model prog w) A (tryMethod a (PySem.dunder nm) b) (fun u s2 => u.isSome = true ∧ R u s2) E s) : wpAny (model prog w) A (binaryOp1 nm a b) R E s := by
  obtain ⟨hh, ge, dr, tk, os⟩ := s
  unfold binaryOp1
  refine wpAny_bind (la.at (wpAny_bind (lb.at (wpAny_bind (fa.at ?_)))))
  rw [ne]
  cases r <;> cases p <;>
  · simp only [Bool.false_eq_true, if_false]
    ksp_lk
    refine wpAny_mono ask (fun u s2 z => ?_) fun _ _ e => e
    cases u with
    | none => exact absurd z.1 (by decide)
    | some v => exact wpAny_pure z.2
theorem op_answered {M : Model} {A : Around} {E : Value → Shared → Prop} {s : Shared} {a b : Value} {op : Operator} {Q : Value → Shared → Prop} (h : wpAny M A (binaryOp1 op.info.2 a b) (fun u s2 => ∃ v, u = some v ∧ Q v s2) E s) : wpAny M A (binaryOp op a b) Q E s := by
  unfold binaryOp
  revert h
  rcases op.info with ⟨sy, nm⟩
  intro h
  refine wpAny_holding (wpAny_bind (wpAny_mono h (fun u s2 z => ?_) fun _ _ e => e))
  rcases z with ⟨v, rfl, z⟩
  exact wpAny_pure z
/-- x op b by the class of x, whatever b's built-in type does -/
theorem bin_look {prog : Program} {w : World} {A : Around} {E : Value → Shared → Prop} {s : Shared} {K : PySem.W.Frag} {x C f L : Addr} {h0 : Heap} {m : Str → Option Value} {ox : Obj} {od : Option Obj} {op : Operator} {b : Value} {T : String} {Q : Value → Shared → Prop}
    (F : PyProof.Rows.Fr h0 L s.heap m) (X0 : K.In h0) (I : InstAt s.heap x ox C od) (hb : Looks (model prog w) s.heap (typeOf b) (.type T)) (o : Bo K C op f) (t : BoT K C op T)
    (h : wpAny (model prog w) A (call (.ref f) [.ref x, b]) (CmpBack Q) E s) : wpAny (model prog w) A (binaryOp op (.ref x) b) Q E s :=
  let XK := X0.keeps F.keep
  let ⟨_, _, hcd, hmro⟩ := ksp_first o.first
  let ⟨_, t1⟩ := t.l
  let ⟨_, t2⟩ := t.r
  op_answered (left_asked I.type hb (beq_eq_false_iff_ne.mpr fun z => nomatch z) (fills_K XK hcd hmro o.sm.at_) (ksp_fillsT XK t1 t2) (looks_subIn XK t.sub) (ksp_inPy XK o.sm.at_ o.refl (.inl rfl)) (Looks.of_pure rfl) (looks_findIn XK t2)
    (wpAny_mono (ksp_try XK I o.sm.at_ o.sm.fn h) (fun _ _ ⟨v, e, q⟩ => ⟨e ▸ rfl, v, e, q⟩) fun _ _ z => z))
theorem cmpBack_of {X : Cx} {pins : List (Addr × Obj)} {sg : L2.St} {Q : VK} {u : Value} {s : Shared} (h : EP X pins sg Q u s) : CmpBack (EP X pins sg Q) u s := by
  obtain ⟨v, H, I, r, q⟩ := h
  cases v with
  | non => cases r; exact ⟨.non, H, I, rfl, q⟩
  | bl b => cases r; exact ⟨.bl b, H, I, rfl, q⟩
  | int i => obtain ⟨t, rfl⟩ := r; exact ⟨.int i, H, I, ⟨t, rfl⟩, q⟩
  | str i => obtain ⟨t, rfl⟩ := r; exact ⟨.str i, H, I, ⟨t, rfl⟩, q⟩
  | byt i => obtain ⟨t, rfl⟩ := r; exact ⟨.byt i, H, I, ⟨t, rfl⟩, q⟩
  | flt i => obtain ⟨t, rfl⟩ := r; exact ⟨.flt i, H, I, ⟨t, rfl⟩, q⟩
  | ref a => cases r; exact ⟨.ref a, H, I, rfl, q⟩
  | ty n => cases r; exact ⟨.ty n, H, I, rfl, q⟩
/-- x op y, y of a built-in type for which the text's facts stand -/
abbrev rOwnT (X : Cx) (C : Addr) (op : Operator) (sp : Sp) (E : XK) : R2 := fun x y H Q => ∃ a dx fs T, x = .ref a ∧ H a = some (.ins C dx fs) ∧ TyL X y H T ∧ BoT X.K C op T ∧ sp [x, y] H Q E
theorem op_own {op : Operator} (o : Bo X.K C op f) (F : FnOk X.prog X.w X.K X.mg X.base CX k f fd ps sp) (hr : Room k X.A) (hb : Binds X.K fd ps []) (hx : Passes CX X E) : OpR X (binaryOp op) (rOwnT X C op sp E) := by
  intro pins s sg H x y v u Q I rx ry h
  obtain ⟨a, dx, fs, T, rfl, ha, ty, bt, h⟩ := h
  cases rx
  obtain ⟨od, J⟩ := inst_at I ha
  obtain ⟨m1, hF⟩ := I.fr
  exact bin_look hF I.ok.mod.kin J (ty pins s sg u I ry) o bt (wpAny_mono (run_fn F hr rfl hb hx I (.cons (show RelV (.ref a) (.ref a) from rfl) (.cons ry .nil)) h) (fun u2 s2 z => cmpBack_of z) fun _ _ z => z)
/-! ### == and != by the class's own __eq__ -/
/-- a type against which x's class goes first: a built-in one, or the class itself -/
inductive TyE (X : Cx) (C : Addr) (H : Hp) : V → Prop where
  | ty {y : V} {T : String} (h : TyL X y H T) (s : subIn X.K (.type T) (.ref C) = some false) : TyE X C H y
  | own {a dx : Addr} {fs : List (Str × V)} (h : H a = some (.ins C dx fs)) : TyE X C H (.ref a)
abbrev rOwnE (X : Cx) (C : Addr) (sp : Sp) (E : XK) : R2 := fun x y H Q => ∃ a dx fs, x = .ref a ∧ H a = some (.ins C dx fs) ∧ TyE X C H y ∧ sp [x, y] H Q E
theorem eq_own (m : Sm X.K C "__eq__" f) (F : FnOk X.prog X.w X.K X.mg X.base CX k f fd ps sp) (hr : Room k X.A) (hb : Binds X.K fd ps []) (hx : Passes CX X E) : OpR X (compareOp .Eq) (rOwnE X C sp E) := by
  intro pins s sg H x y v u Q I rx ry h
  obtain ⟨a, dx, fs, rfl, ha, ty, h⟩ := h
  cases rx
  obtain ⟨od, J⟩ := inst_at I ha
  obtain ⟨m1, hF⟩ := I.fr
  have fin := wpAny_mono (run_fn F hr rfl hb hx I (.cons (show RelV (.ref a) (.ref a) from rfl) (.cons ry .nil)) h) (fun u2 s2 z => cmpBack_of z) fun _ _ z => z
  cases ty with
  | @ty y T h1 h2 => exact cmp_K (op := .Eq) (tb := .type T) hr.units0 hF I.ok.mod.kin J (h1 pins s sg u I ry) (by unfold notFirst; rw [h2]; simp) m.at_ m.fn fin
  | @own b dy gs hb2 =>
    cases ry
    obtain ⟨od2, J2⟩ := inst_at I hb2
    exact cmp_K (op := .Eq) (tb := .ref C) hr.units0 hF I.ok.mod.kin J J2.type (by unfold notFirst; simp) m.at_ m.fn fin
/-- object.__ne__ asks the class's own __eq__ and turns its answer about -/
theorem ne_entry {prog : Program} {w : World} {A : Around} {E : Value → Shared → Prop} {s : Shared} {K : PySem.W.Frag} {x C f L : Addr} {h0 : Heap} {m : Str → Option Value} {ox : Obj} {od : Option Obj} {b : Value} {Q : Fin → Shared → Prop}
    (hu : A.units < cLine) (F : PyProof.Rows.Fr h0 L s.heap m) (X0 : K.In h0) (I : InstAt s.heap x ox C od) (e : Sm K C "__eq__" f)
    (h : wpAny (model prog w) A (call (.ref f) [.ref x, b]) (fun v s2 => ∃ c, v = .bool c ∧ Q (.done (.ret (.bool (!c)))) s2) E s) : wpAny (model prog w) A (Builtin.«object.__ne__» ⟨[.ref x, b], []⟩) Q E s := by
  have asked : wpAny (model prog w) A (callSpecialIfBound? (.ref x) (Str.ofString "__eq__") [b]) (fun r s2 => ∃ c, r = some (.bool c) ∧ Q (.done (.ret (.bool (!c)))) s2) E s :=
    ifBound_K (X0.keeps F.keep) I e.at_ e.fn (wpAny_mono h (fun v s2 ⟨c, hv, q⟩ => ⟨c, congrArg some hv, q⟩) fun _ _ z => z)
  refine wpAny_bind (wpAny_pure (wpAny_bind (wpAny_cRoomFor hu (wpAny_bind (wpAny_mono asked ?_ fun _ _ z => z)))))
  rintro r s2 ⟨c, rfl, q⟩
  exact wpAny_bind (wpAny_truthy_bool (wpAny_pure q))
/-- a comparison that the left side answers: the right side's class is the same, or none that goes first -/
theorem cmp_answered {M : Model} {A : Around} {E : Value → Shared → Prop} {s : Shared} {x : Addr} {b ta tb : Value} {op : CmpOp} {Q : Value → Shared → Prop} (hu : A.units < cLine) (la : Looks M s.heap (typeOf (.ref x)) ta) (lb : Looks M s.heap (typeOf b) tb)
    (sub : (ta != tb) = true → Looks M s.heap (isSubtype tb ta) false) (ask : wpAny M A (tryCompare (.ref x) (cmpInfo op).2.1 b) (fun r s2 => ∃ v, r = some v ∧ Q v s2) E s) : wpAny M A (richCompare op (.ref x) b) Q E s := by
  have rest : ∀ {k : Option Value → Sem Value}, (∀ v, k (some v) = pure v) → wpAny M A (tryCompare (.ref x) (cmpInfo op).2.1 b >>= k) Q E s := fun hk => wpAny_bind (wpAny_mono ask (fun _ _ ⟨v, e, q⟩ => by rw [e, hk]; exact wpAny_pure q) fun _ _ z => z)
  unfold richCompare
  rw [oneThing_ref]
  refine wpAny_holding (wpAny_bind (wpAny_cRoomFor hu (wpAny_bind (la.here (wpAny_bind (lb.here ?_))))))
  cases ne : ta != tb with
  | true => exact wpAny_bind ((sub ne).here (rest fun _ => rfl))
  | false => exact wpAny_bind (wpAny_pure (rest fun _ => rfl))
theorem ne_look {prog : Program} {w : World} {A : Around} {E : Value → Shared → Prop} {s : Shared} {K : PySem.W.Frag} {x C f L : Addr} {h0 : Heap} {m : Str → Option Value} {ox : Obj} {od : Option Obj} {b tb : Value} {Q : Value → Shared → Prop}
    (hu : A.units + 1 < cLine) (F : PyProof.Rows.Fr h0 L s.heap m) (X0 : K.In h0) (I : InstAt s.heap x ox C od) (hb : Looks (model prog w) s.heap (typeOf b) tb) (hn : notFirst K C tb = true)
    (hob : mroIn K C (.type "object") = some true) (e : Sm K C "__eq__" f) (n : findIn K (.ref C) "__ne__" = some (some (.builtin "object.__ne__")))
    (h : wpAny (model prog w) A.in1 (call (.ref f) [.ref x, b]) (fun v s2 => ∃ c, v = .bool c ∧ Q (.bool (!c)) s2) E s) : wpAny (model prog w) A (richCompare .NotEq (.ref x) b) Q E s := by
  have XK := X0.keeps F.keep
  have body : wpAny (model prog w) A (call (.builtin "object.__ne__") [.ref x, b]) (fun v s2 => ∃ c, v = .bool c ∧ Q (.bool c) s2) E s := by
    have sub : Looks (model prog w) s.heap (isInstance (.ref x) (.type "object")) true := I.type.andThen (looks_mroIn XK hob)
    refine wpAny_call (codeAny_call_builtin PySem.F.cmp_object.ne.plain PySem.F.cmpEntry_ne (@PySem.W.check_slot (model prog w) _ _ s "object.__ne__" "object" "__ne__" (.ref x) [b] [] _ PySem.F.cmpKind_ne PySem.F.cmpSplit_ne sub (PySem.F.cmpArgs_ne _ _) ?_))
    exact ne_entry (A := A.in1) hu F X0 I e (wpAny_mono h (fun v s2 z => by
      obtain ⟨c, rfl, z⟩ := z
      exact ⟨c, rfl, !c, rfl, z⟩) fun _ _ z => z)
  have fin : wpAny (model prog w) A (call (.builtin "object.__ne__") ([.ref x] ++ [b]) >>= fun v => pure (some v)) (fun r s2 => ∃ c, r = some (.bool c) ∧ Q (.bool c) s2) E s :=
    wpAny_bind (wpAny_mono body (fun v s2 ⟨c, hv, z⟩ => wpAny_pure ⟨c, congrArg some hv, z⟩) fun _ _ z => z)
  have bnd : Looks (model prog w) s.heap (bindSpecial (.builtin "object.__ne__") (.ref x)) (.builtin "object.__ne__", [.ref x]) := Looks.of_pure (PySem.F.cmp_object.ne.bind _)
  refine cmp_answered (op := .NotEq) (Nat.lt_of_succ_lt hu) I.type hb (fun ne => looks_subIn XK ?_) ?_
  · unfold notFirst at hn
    cases eq : tb == .ref C with
    | true => rw [eq_of_beq eq] at ne; simp at ne
    | false => rw [eq] at hn; exact eq_of_beq hn
  · show wpAny _ _ (tryCompare (.ref x) "__ne__" b) _ _ _
    have took : wpAny (model prog w) A (callSpecialIfBound? (.ref x) "__ne__" [b]) (fun r s2 => ∃ c, r = some (.bool c) ∧ Q (.bool c) s2) E s := by
      simp only [callSpecialIfBound?, bindSpecialIfBound?]
      refine wpAny_holding (wpAny_bind (wpAny_bind (wpAny_bind (I.type.here ((looks_findIn XK n).here (wpAny_bind (wpAny_askSetting (wpAny_ite ?_))))))))
      split <;> first | exact wpAny_bind (bnd.here (wpAny_pure fin)) | exact wpAny_tryCatch (wpAny_bind (bnd.here (wpAny_pure fin)))
    unfold tryCompare
    exact wpAny_bind (wpAny_mono took (fun r s2 ⟨c, e, z⟩ => e ▸ wpAny_pure ⟨_, rfl, z⟩) fun _ _ z => z)
abbrev rOwnN (X : Cx) (C : Addr) (sp : Sp) (E : XK) : R2 := fun x y H Q => ∃ a dx fs, x = .ref a ∧ H a = some (.ins C dx fs) ∧ TyE X C H y ∧ sp [x, y] H (fun v H' => ∃ c, v = .bl c ∧ Q (.bl (!c)) H') E
theorem ne_own (m : Sm X.K C "__eq__" f) (n : findIn X.K (.ref C) "__ne__" = some (some (.builtin "object.__ne__"))) (hob : mroIn X.K C (.type "object") = some true) (F : FnOk X.prog X.w X.K X.mg X.base CX k f fd ps sp) (hr : Room (k + 1) X.A) (hb : Binds X.K fd ps []) (hx : Passes CX X E) :
    OpR X (compareOp .NotEq) (rOwnN X C sp E) := by
  intro pins s sg H x y v u Q I rx ry h
  obtain ⟨a, dx, fs, rfl, ha, ty, h⟩ := h
  cases rx
  obtain ⟨od, J⟩ := inst_at I ha
  obtain ⟨m1, hF⟩ := I.fr
  have fin : wpAny (model X.prog X.w) X.A.in1 (call (.ref f) [.ref a, u]) (fun v s2 => ∃ c, v = .bool c ∧ EP X pins sg Q (.bool (!c)) s2) X.xe s :=
    wpAny_mono (run_fn F hr.in1 rfl hb hx I (.cons (show RelV (.ref a) (.ref a) from rfl) (.cons ry .nil)) h) (fun u2 s2 z => by
      obtain ⟨v2, H2, I2, r2, c, rfl, q⟩ := z
      cases r2
      exact ⟨c, rfl, .bl (!c), H2, I2, rfl, q⟩) fun _ _ z => z
  cases ty with
  | @ty y T h1 h2 => exact ne_look (tb := .type T) (by have := hr.units; omega) hF I.ok.mod.kin J (h1 pins s sg u I ry) (by unfold notFirst; rw [h2]; simp) hob m n fin
  | @own b dy gs hb2 =>
    cases ry
    obtain ⟨od2, J2⟩ := inst_at I hb2
    exact ne_look (tb := .ref C) (by have := hr.units; omega) hF I.ok.mod.kin J J2.type (by unfold notFirst; simp) hob m n fin
end
end DL

/-! DF: defs by contract, instances, exceptions by data (own work). -/
namespace DL
open PySem L2 PySem.W

/-! ### defs -/
/-- the def at f keeps the contract C -/
def Fn (P : Program) (w : World) (K : PySem.W.Frag) (mg : Str → Option Value) (base : Heap) (k : Nat) (f : Addr) (ps : List Str) (C : Ct) : Prop := ∃ fd, FnOk P w K mg base (L2.CX P w) k f fd ps (spC K C) ∧ Binds K fd ps []
section
variable {P : Program} {w : World} {K : PySem.W.Frag} {mg : Str → Option Value} {base : Heap} {f : Addr} {fd : FuncData} {x qual : Str} {params : Arguments} {body : List Stmt} {scope : Scope} {ps N : List Str} {k j : Nat} {C : Ct}
theorem Fn.up (F : Fn P w K mg base j f ps C) (h : j ≤ k) : Fn P w K mg base k f ps C := let ⟨fd, a, b⟩ := F; ⟨fd, a.mono h, b⟩
theorem fn_okG {dvs : List V} (F : FunD K x qual params body scope dvs [] f fd) (S : FnScope N ps scope)
    (hl : ∀ ws ka out, C ws ka out → ws.length = ps.length)
    (h : ∀ (cdv : Value) (A : Around) (outer : List Env) (s : Shared) (H : Hp) (E : XK), Room k (A.deeper (PyProof.Rows.envOfC qual scope s.heap.objs.size f cdv)) →
      ∃ t, PSs (cxOf (L2.CX P w) P w K mg base N qual scope f cdv A outer s H E) body t ∧
        ∀ ws ka out B F0 Q, C ws ka out → RtOk K B F0 out Q → RxOk K B F0 out E → Gp K B F0 [] (t { nx := fun _ H' => Q .non H', rt := Q }) (ws.map some ++ List.replicate (N.length - ps.length) none) ka) : FnOk P w K mg base (L2.CX P w) (k + 1) f fd ps (spC K C) := by
  refine (F.ok S (fun vs H Q E h => ?_) (fun cdv A outer s H vs Q E hr hs => ?_))
  · obtain ⟨B, F', ws, ka, out, hC, l, _⟩ := h
    rw [l]
    exact hl _ _ _ hC
  · obtain ⟨t, d, p⟩ := h cdv A outer s H E hr
    obtain ⟨B, F0, ws, ka, out, hC, l, ⟨F1, g1, en⟩, hR, hX⟩ := hs
    refine ⟨t, d, p ws ka out B F0 Q hC hR hX _ H ⟨F1, g1, ?_⟩⟩
    have hw := hl _ _ _ hC
    refine (en.frame (ro' := ws.map some ++ List.replicate (N.length - ps.length) none) (sg' := L2.start N vs) ?_ fun i w2 e => ?_).held fun p hp => by cases hp
    · unfold L2.start
      rw [List.length_append, List.length_append, List.length_map, List.length_map, List.length_replicate, List.length_replicate, l, hw]
    · unfold L2.start
      by_cases hi : i < ws.length
      · rw [List.getElem?_append_left (by rw [List.length_map]; exact hi), List.getElem?_map, List.getElem?_eq_getElem hi] at e
        have e' : ws[i] = w2 := by simpa using e
        rw [List.getElem?_append_left (by rw [List.length_map, l]; exact hi), List.getElem?_map, List.getElem?_eq_getElem (by rw [l]; exact hi)]
        refine ⟨vs[i], rfl, ?_⟩
        have := en.tm (vs[i]'(by rw [l]; exact hi), ws[i]) (by
          have hz : (vs.zip ws)[i]? = some (vs[i]'(by rw [l]; exact hi), ws[i]) := by
            rw [List.getElem?_zip_eq_some]
            exact ⟨List.getElem?_eq_getElem _, List.getElem?_eq_getElem _⟩
          exact List.mem_of_getElem? hz)
        rw [e'] at this
        exact this
      · rw [List.getElem?_append_right (by rw [List.length_map]; omega), List.getElem?_replicate] at e
        split at e <;> cases e
theorem fn_okF (F : FunD K x qual params body scope [] [] f fd) (S : FnScope N ps scope)
    (hb : ∀ (kV doc pm : Value) (an : Option Addr) (cdv ct : Value) (us : List Value), us.length = ps.length → bindArgs (PySem.W.fnOf x qual params body scope .none kV doc pm an cdv ct) ⟨us, []⟩ = pure (ps.zip us))
    (hl : ∀ ws ka out, C ws ka out → ws.length = ps.length)
    (h : ∀ (cdv : Value) (A : Around) (outer : List Env) (s : Shared) (H : Hp) (E : XK), Room k (A.deeper (PyProof.Rows.envOfC qual scope s.heap.objs.size f cdv)) →
      ∃ t, PSs (cxOf (L2.CX P w) P w K mg base N qual scope f cdv A outer s H E) body t ∧
        ∀ ws ka out B F0 Q, C ws ka out → RtOk K B F0 out Q → RxOk K B F0 out E → Gp K B F0 [] (t { nx := fun _ H' => Q .non H', rt := Q }) (ws.map some ++ List.replicate (N.length - ps.length) none) ka) : FnOk P w K mg base (L2.CX P w) (k + 1) f fd ps (spC K C) := fn_okG F S hl h
theorem fn_ok (F : FunD K x qual params body scope [] [] f fd) (S : FnScope N ps scope)
    (hb : ∀ (kV doc pm : Value) (an : Option Addr) (cdv ct : Value) (us : List Value), us.length = ps.length → bindArgs (PySem.W.fnOf x qual params body scope .none kV doc pm an cdv ct) ⟨us, []⟩ = pure (ps.zip us))
    (hl : ∀ ws ka out, C ws ka out → ws.length = ps.length)
    (h : ∀ (cdv : Value) (A : Around) (outer : List Env) (s : Shared) (H : Hp) (E : XK), Room k (A.deeper (PyProof.Rows.envOfC qual scope s.heap.objs.size f cdv)) →
      ∃ t, PSs (cxOf (L2.CX P w) P w K mg base N qual scope f cdv A outer s H E) body t ∧
        ∀ ws ka out B F0 Q, C ws ka out → RtOk K B F0 out Q → RxOk K B F0 out E → Gp K B F0 [] (t { nx := fun _ H' => Q .non H', rt := Q }) (ws.map some ++ List.replicate (N.length - ps.length) none) ka) : Fn P w K mg base (k + 1) f ps C := ⟨fd, fn_okF F S hb hl h, F.bindsN hb⟩
end
/-- the def behind a contract, and what is known of it -/
noncomputable def Fn.fd {P : Program} {w : World} {K : PySem.W.Frag} {mg : Str → Option Value} {base : Heap} {k : Nat} {f : Addr} {ps : List Str} {C : Ct} (F : Fn P w K mg base k f ps C) : FuncData := Classical.choose F
theorem Fn.ok {P : Program} {w : World} {K : PySem.W.Frag} {mg : Str → Option Value} {base : Heap} {k : Nat} {f : Addr} {ps : List Str} {C : Ct} (F : Fn P w K mg base k f ps C) : FnOk P w K mg base (L2.CX P w) k f F.fd ps (spC K C) := (Classical.choose_spec F).1
theorem Fn.bn {P : Program} {w : World} {K : PySem.W.Frag} {mg : Str → Option Value} {base : Heap} {k : Nat} {f : Addr} {ps : List Str} {C : Ct} (F : Fn P w K mg base k f ps C) : Binds K F.fd ps [] := (Classical.choose_spec F).2
section
variable {X : Cx}
theorem passes_no : Passes (L2.CX X.prog X.w) X (fun _ _ _ => False) := fun _ _ _ _ _ _ _ ⟨_, _, _, _, _, _, _, _, _, _, _, _, z⟩ => z.elim
end
end DL

/-! DG: instances by data (own work). -/
namespace DL
open PySem L2 PySem.W

section
variable {K : PySem.W.Frag} {B F F0 : Hp} {ro : Ro} {ka k1 k2 k3 kr : Cells} {ta : List (V × W)} {sg : L2.St} {H H' : Hp} {te tf tg : TE} {tr : TA} {tt : TT} {w x y z : W} {n : Nd} {C dx a : Addr} {fs : List (Str × D)} {b : Bool}

theorem rpf_lookup {F : Hp} : ∀ {fs : List (Str × D)} {xs : List (Str × V)} {f : Str} {d : D}, RpF K F fs xs → fs.lookup f = some d → ∃ v, xs.lookup f = some v ∧ Rp K F d v
  | [], _, _, _, _, e => by cases e
  | (g, d0) :: fs, xs, f, d, h, e => by
    obtain ⟨x, ys, rfl, h1, h2⟩ := h
    unfold List.lookup at e ⊢
    cases q : (f == g) with
    | true =>
      rw [q] at e
      cases e
      exact ⟨x, rfl, h1⟩
    | false =>
      rw [q] at e
      exact rpf_lookup h2 e
theorem rpf_none {F : Hp} : ∀ {fs : List (Str × D)} {xs : List (Str × V)} {f : Str}, RpF K F fs xs → fs.lookup f = none → xs.lookup f = none
  | [], xs, f, h, _ => by rw [show xs = [] from h]; rfl
  | (g, d0) :: fs, xs, f, h, e => by
    obtain ⟨x, ys, rfl, h1, h2⟩ := h
    unfold List.lookup at e ⊢
    cases q : (f == g) with
    | true => rw [q] at e; cases e
    | false => rw [q] at e; exact rpf_none h2 e
/-- w is an instance of the class at C with the fields fs; b: viewed -/
inductive Io (ka : Cells) : W → Addr → List (Str × D) → Bool → Prop where
  | v {D1 : Addr} {gs : List (Str × D)} : Io ka (.val (.ins D1 gs)) D1 gs false
  | w {D1 : Addr} {gs : List (Str × D)} : Io ka (.vw (.ins D1 gs)) D1 gs true
  | c {p D1 : Addr} {gs : List (Str × D)} (j : Nat) (h : ka[j]? = some (p, .ins D1 gs)) : Io ka (.val (.adr p)) D1 gs false
theorem rd_ins {H : Hp} {dx : Addr} {xs : List (Str × V)} (n : Nz F) (e : Exz F H) (h : Rd F a (.ins C dx xs)) : H a = some (.ins C dx xs) := by
  rcases h with h | ⟨o, h⟩
  · exact e.at h rfl
  · have := n a _ h
    cases this
/-- the built-in type of a value, by the abstract heap -/
inductive TyV (K : PySem.W.Frag) (H : Hp) : V → String → Prop where
  | non : TyV K H .non "NoneType"
  | bl {b : Bool} : TyV K H (.bl b) "bool"
  | int {b : Int} : TyV K H (.int b) "int"
  | str {b : Str} : TyV K H (.str b) "str"
  | lst {a : Addr} {xs : List V} (h : SqL K H a xs) : TyV K H (.ref a) "list"
  | tup {a : Addr} {xs : List V} (h : SqT K H a xs) : TyV K H (.ref a) "tuple"
theorem TyV.tyl {X : Cx} {y : V} {T : String} (h : TyV X.K H y T) : TyL X y H T := by
  cases h with
  | non => exact tyl_non
  | bl => exact tyl_bl
  | int => exact tyl_int
  | str => exact tyl_str
  | lst h => exact tyl_lst h
  | tup h => exact tyl_tup h
inductive TyE2 (K : PySem.W.Frag) (C : Addr) (H : Hp) : V → Prop where
  | ty {y : V} {T : String} (h : TyV K H y T) (s : subIn K (.type T) (.ref C) = some false) : TyE2 K C H y
  | own {a dx : Addr} {gs : List (Str × V)} (h : H a = some (.ins C dx gs)) : TyE2 K C H (.ref a)
theorem TyE2.tye {X : Cx} {y : V} (h : TyE2 X.K C H y) : TyE X C H y := by
  cases h with
  | ty h s => exact .ty h.tyl s
  | own h => exact .own h
abbrev rOwnT2 (K : PySem.W.Frag) (C : Addr) (op : Operator) (sp : Sp) (E : XK) : R2 := fun x y H Q => ∃ a dx fs T, x = .ref a ∧ H a = some (.ins C dx fs) ∧ TyV K H y T ∧ BoT K C op T ∧ sp [x, y] H Q E
abbrev rOwnE2 (K : PySem.W.Frag) (C : Addr) (sp : Sp) (E : XK) : R2 := fun x y H Q => ∃ a dx fs, x = .ref a ∧ H a = some (.ins C dx fs) ∧ TyE2 K C H y ∧ sp [x, y] H Q E
abbrev rOwnN2 (K : PySem.W.Frag) (C : Addr) (sp : Sp) (E : XK) : R2 := fun x y H Q => ∃ a dx fs, x = .ref a ∧ H a = some (.ins C dx fs) ∧ TyE2 K C H y ∧ sp [x, y] H (fun v H' => ∃ c, v = .bl c ∧ Q (.bl (!c)) H') E
theorem opr_imp {X : Cx} {f : Value → Value → Sem Value} {r r' : R2} (h : OpR X f r) (i : ∀ x y H Q, r' x y H Q → r x y H Q) : OpR X f r' := fun pins s sg H x y v u Q I rx ry q => h pins s sg H x y v u Q I rx ry (i _ _ _ _ q)
theorem opr_T {X : Cx} {op : Operator} {sp : Sp} {E : XK} (h : OpR X (binaryOp op) (rOwnT X C op sp E)) : OpR X (binaryOp op) (rOwnT2 X.K C op sp E) := opr_imp h fun x y H Q ⟨a, dx, fs, T, h1, h2, h3, h4, h5⟩ => ⟨a, dx, fs, T, h1, h2, h3.tyl, h4, h5⟩
theorem opr_E {X : Cx} {op : CmpOp} {sp : Sp} {E : XK} (h : OpR X (compareOp op) (rOwnE X C sp E)) : OpR X (compareOp op) (rOwnE2 X.K C sp E) := opr_imp h fun x y H Q ⟨a, dx, fs, h1, h2, h3, h5⟩ => ⟨a, dx, fs, h1, h2, h3.tye, h5⟩
theorem opr_N {X : Cx} {op : CmpOp} {sp : Sp} {E : XK} (h : OpR X (compareOp op) (rOwnN X C sp E)) : OpR X (compareOp op) (rOwnN2 X.K C sp E) := opr_imp h fun x y H Q ⟨a, dx, fs, h1, h2, h3, h5⟩ => ⟨a, dx, fs, h1, h2, h3.tye, h5⟩
theorem Io.get {v : V} (l : Io ka w C fs b) (e : EnF K B F ro ka ta sg H) (h : WOk K B F v w) : ∃ a dx xs, v = .ref a ∧ H a = some (.ins C dx xs) ∧ RpF K (if b then uni B F else F) fs xs := by
  cases l with
  | v =>
    obtain ⟨a, dx, xs, rfl, h1, h2⟩ := h
    exact ⟨a, dx, xs, rfl, rd_ins e.nz e.fz h1, h2⟩
  | w =>
    obtain ⟨a, dx, xs, rfl, h1, h2⟩ := h
    exact ⟨a, dx, xs, rfl, rd_ins (uni_nz e.nz) (uni_exz e.fz e.fr) h1, h2⟩
  | @c a C fs j hj =>
    obtain ⟨_, _, dx, xs, h1, h2⟩ := e.ce _ (List.mem_of_getElem? hj)
    exact ⟨a, dx, xs, h, h1, h2⟩
theorem Io.en {v : V} (l : Io ka w C fs b) (e : En K B F0 ro ka ta sg H) (h : (v, w) ∈ ta) : ∃ a dx xs, v = .ref a ∧ H a = some (.ins C dx xs) := by
  obtain ⟨F, g, e⟩ := e
  obtain ⟨a, dx, xs, h1, h2, _⟩ := l.get e (e.tm _ h)
  exact ⟨a, dx, xs, h1, h2⟩
/-- o.f, a field -/
theorem ev_fld {f : Str} {d : D} (h : EvD K te ro ka w k1) (l : Io k1 w C fs b) (c : Cls K C) (nf : NoAttr K C f) (hd : fs.lookup f = some d) : EvD K (tFld K te f) ro ka (part b d) k1 := fun B F0 ta sg H Q e q => h B F0 ta sg H _ e fun v H1 e1 => by
  obtain ⟨F, g, e1⟩ := e1
  obtain ⟨a, dx, xs, rfl, h1, h2⟩ := l.get e1 (e1.tm _ List.mem_cons_self)
  obtain ⟨v, h3, h4⟩ := rpf_lookup h2 hd
  refine ⟨a, C, dx, xs, v, rfl, h1, c, nf, h3, q v H1 ⟨F, g, ?_⟩⟩
  exact (e1.held (ta' := ta) fun p hp => List.mem_cons_of_mem _ hp).push (wok_part b h4)

/-! ### calls by contract: how they end -/
/-- the call ends with an exception of the class C1 -/
theorem sp_exc {Cc : Ct} {ws : List W} {out : Out → Cells → Prop} {vs : List V} {E : XK} {Q : VK} {C1 : Addr} {fs : List (Str × D)} (e : En K B F0 ro (ka ++ kr) (vs.zip ws ++ ta) sg H) (hl : vs.length = ws.length) (hC : Cc ws ka out) (ho : ∀ o k, out o k → o = .exc C1 fs ∧ k = k2)
    (q : ∀ dx H', En K B F0 ro (k2 ++ [(dx, .xd fs)] ++ kr) ta sg H' → E (.ref C1) (some dx) H') : spC K Cc vs H Q E := by
  obtain ⟨F, g, e⟩ := e
  refine ⟨off H ka, F, ws, ka, out, hC, hl, ⟨F, Gr.refl _ _, e.into (ro' := []) (sg' := []) (ta' := vs.zip ws) rfl (fun i w h => by simp at h) fun p hp => List.mem_append_left _ hp⟩, fun d' k v H' o _ => ?_, fun C fs k dx H' o ⟨F', g', e'⟩ => ?_, fun C k H' o _ => ?_⟩
  · have := (ho _ _ o).1
    cases this
  · obtain ⟨hd, rfl⟩ := ho _ _ o
    cases hd
    obtain ⟨g2, e2⟩ := e.back g' e' (tb := ta) fun p hp => .inl (List.mem_append_right _ hp)
    exact q dx H' ⟨F', g.trans g2, e2⟩
  · have := (ho _ _ o).1
    cases this
theorem sp_exc0 {Cc : Ct} {ws : List W} {out : Out → Cells → Prop} {vs : List V} {E : XK} {Q : VK} {C1 : Addr} (e : En K B F0 ro (ka ++ kr) (vs.zip ws ++ ta) sg H) (hl : vs.length = ws.length) (hC : Cc ws ka out) (ho : ∀ o k, out o k → o = .exc0 C1 ∧ k = k2)
    (q : ∀ H', En K B F0 ro (k2 ++ kr) ta sg H' → E (.ref C1) none H') : spC K Cc vs H Q E := by
  obtain ⟨F, g, e⟩ := e
  refine ⟨off H ka, F, ws, ka, out, hC, hl, ⟨F, Gr.refl _ _, e.into (ro' := []) (sg' := []) (ta' := vs.zip ws) rfl (fun i w h => by simp at h) fun p hp => List.mem_append_left _ hp⟩, fun d' k v H' o _ => ?_, fun C fs k dx H' o _ => ?_, fun C k H' o ⟨F', g', e'⟩ => ?_⟩
  · have := (ho _ _ o).1
    cases this
  · have := (ho _ _ o).1
    cases this
  · obtain ⟨hd, rfl⟩ := ho _ _ o
    cases hd
    obtain ⟨g2, e2⟩ := e.back g' e' (tb := ta) fun p hp => .inl (List.mem_append_right _ hp)
    exact q H' ⟨F', g.trans g2, e2⟩
/-- the call comes back with a new cell -/
theorem sp_new {Cc : Ct} {ws : List W} {out : Out → Cells → Prop} {vs : List V} {E : XK} {Q : VK} {m : Nd} (e : En K B F0 ro (ka ++ kr) (vs.zip ws ++ ta) sg H) (hl : vs.length = ws.length) (hC : Cc ws ka out) (ho : ∀ o k, out o k → ∃ a, o = .ret (.adr a) ∧ k = k2 ++ [(a, m)])
    (q : ∀ a H', En K B F0 ro (k2 ++ kr ++ [(a, m)]) ta sg H' → Q (.ref a) H') : spC K Cc vs H Q E := by
  obtain ⟨F, g, e⟩ := e
  refine ⟨off H ka, F, ws, ka, out, hC, hl, ⟨F, Gr.refl _ _, e.into (ro' := []) (sg' := []) (ta' := vs.zip ws) rfl (fun i w h => by simp at h) fun p hp => List.mem_append_left _ hp⟩, fun d' k v H' o ⟨F', g', e'⟩ => ?_, fun C fs k dx H' o _ => ?_, fun C k H' o _ => ?_⟩
  · obtain ⟨a, hd, rfl⟩ := ho _ _ o
    cases hd
    have hv : v = .ref a := e'.tm (v, .val (.adr a)) List.mem_cons_self
    subst hv
    obtain ⟨g2, e2⟩ := e.back g' e' (tb := ta) fun p hp => .inl (List.mem_append_right _ hp)
    refine q a H' ⟨F', g.trans g2, e2.perm ?_⟩
    rw [List.append_assoc, List.append_assoc]
    exact List.Perm.append_left _ List.perm_append_comm
  · obtain ⟨a, z, _⟩ := ho _ _ o
    cases z
  · obtain ⟨a, z, _⟩ := ho _ _ o
    cases z
theorem evn_call {Cc : Ct} {ws : List W} {out : Out → Cells → Prop} {E : XK} {m : Nd} (kr : Cells) (ha : EvA K tr ro ka ws (k1 ++ kr)) (hC : Cc ws k1 out) (ho : ∀ o k, out o k → ∃ a, o = .ret (.adr a) ∧ k = k2 ++ [(a, m)]) : EvN K (tCall (spC K Cc) [] E tr) ro ka m (k2 ++ kr) := fun B F0 ta sg H Q e q =>
  ha B F0 ta sg H _ e fun vs H1 hl e1 => by
    rw [List.append_nil]
    exact sp_new e1 hl hC ho q
/-- own operators: by contract -/
theorem rv_own2 {Cc : Ct} {out : Out → Cells → Prop} {E : XK} {d : D} {b : Bool} (kr : Cells) (l : Io (k1 ++ kr) x C fs b) (hC : Cc [x, y] k1 out) (ho : ∀ o k, out o k → o = .ret d ∧ k = k1) : RvD K (rOwn2 C (spC K Cc) E) (k1 ++ kr) x y (.val d) := fun B F0 ro ta sg H u v Q e h1 h2 q => by
  obtain ⟨a, dx, xs, rfl, ha⟩ := l.en e h1
  refine ⟨a, dx, xs, rfl, ha, sp_ret (ws := [x, y]) (ta := ta) (e.held fun p hp => ?_) rfl hC ho q⟩
  rcases List.mem_append.mp hp with hp | hp
  · simp at hp
    rcases hp with rfl | rfl
    · exact h1
    · exact h2
  · exact hp
theorem ru_own {Cc : Ct} {out : Out → Cells → Prop} {E : XK} {d : D} {b : Bool} (kr : Cells) (l : Io (k1 ++ kr) x C fs b) (hC : Cc [x] k1 out) (ho : ∀ o k, out o k → o = .ret d ∧ k = k1) : RuD K (rOwn1 C (spC K Cc) E) (k1 ++ kr) x (.val d) := fun B F0 ro ta sg H u Q e h1 q => by
  obtain ⟨a, dx, xs, rfl, ha⟩ := l.en e h1
  refine ⟨a, dx, xs, rfl, ha, sp_ret (ws := [x]) (ta := ta) (e.held fun p hp => ?_) rfl hC ho q⟩
  rcases List.mem_append.mp hp with hp | hp
  · simp at hp
    rw [hp]
    exact h1
  · exact hp
/-- o.f, a property -/
theorem ev_prop {Cc : Ct} {out : Out → Cells → Prop} {E : XK} {d : D} (kr : Cells) (h : EvD K te ro ka w (k1 ++ kr)) (l : Io (k1 ++ kr) w C fs b) (hC : Cc [w] k1 out) (ho : ∀ o k, out o k → o = .ret d ∧ k = k1) : EvD K (tProp C (spC K Cc) [] E te) ro ka (.val d) (k1 ++ kr) := fun B F0 ta sg H Q e q => h B F0 ta sg H _ e fun u H1 e1 => by
  obtain ⟨a, dx, xs, rfl, ha⟩ := l.en e1 List.mem_cons_self
  exact ⟨a, dx, xs, rfl, ha, sp_ret (vs := [.ref a]) (ws := [w]) (ta := ta) e1 rfl hC ho q⟩
/-- len of an own object -/
theorem rc_own_len {Cc : Ct} {out : Out → Cells → Prop} {E : XK} {m : Nat} (kr : Cells) (l : Io (k1 ++ kr) x C fs b) (hC : Cc [x] k1 out) (ho : ∀ o k, out o k → o = .ret (.int m) ∧ k = k1) (hm : m ≤ 100000) :
    RcD K (fun xs H Q => ∃ a dx fs, xs = [.ref a] ∧ H a = some (.ins C dx fs) ∧ spC K Cc xs H (fun v H' => ∃ n : Nat, v = .int n ∧ n ≤ 100000 ∧ Q v H') E) (k1 ++ kr) [x] (.val (.int m)) := fun B F0 ro ta sg H us Q e hl hm2 q => by
  obtain ⟨u, rfl, hu⟩ := zip_one hl hm2
  obtain ⟨a, dx, xs, rfl, ha⟩ := l.en e hu
  refine ⟨a, dx, xs, rfl, ha, sp_ret (vs := [.ref a]) (ws := [x]) (ta := ta) (e.held fun p hp => ?_) rfl hC ho fun v H' e2 => ?_⟩
  · rcases List.mem_append.mp hp with hp | hp
    · simp at hp
      rw [hp]
      exact hu
    · exact hp
  · have hv := e2.tm_int (v := v) (i := m) List.mem_cons_self
    exact ⟨m, hv, hm, q v H' e2⟩
/-- own == own, own != own, or a built-in's value -/
inductive Eo (ka : Cells) : W → Addr → Prop where
  | io {u : W} {D1 : Addr} {gs : List (Str × D)} {b1 : Bool} (l : Io ka u D1 gs b1) : Eo ka u D1
  | non {D1 : Addr} : Eo ka (.val .non) D1
  | bl {b1 : Bool} {D1 : Addr} : Eo ka (.val (.bl b1)) D1
  | int {b1 : Int} {D1 : Addr} : Eo ka (.val (.int b1)) D1
  | str {b1 : Str} {D1 : Addr} : Eo ka (.val (.str b1)) D1
  | sq {u : W} {t b1 : Bool} {ds : List D} {D1 : Addr} (l : Lk ka u t ds b1) : Eo ka u D1
/-- the built-in types, that the class goes ahead of -/
def EqT (K : PySem.W.Frag) (C : Addr) : Prop := ∀ T ∈ ["NoneType", "bool", "int", "str", "list", "tuple"], subIn K (.type T) (.ref C) = some false
theorem Eo.at {u : V} (hT : EqT K C) (l : Eo ka y C) (e : En K B F0 ro ka ta sg H) (h : (u, y) ∈ ta) : TyE2 K C H u := by
  cases l with
  | io l =>
    obtain ⟨a, dx, xs, rfl, ha⟩ := l.en e h
    exact .own ha
  | non =>
    obtain rfl := e.tm_non h
    exact .ty .non (hT _ (by simp))
  | bl =>
    obtain rfl := e.tm_bl h
    exact .ty .bl (hT _ (by simp))
  | int =>
    obtain rfl := e.tm_int h
    exact .ty .int (hT _ (by simp))
  | str =>
    obtain rfl := e.tm_str h
    exact .ty .str (hT _ (by simp))
  | @sq x t ds b C l =>
    obtain ⟨F, g, e⟩ := e
    obtain ⟨a, xs, rfl, h1, _⟩ := l.get e (e.tm _ h)
    cases t with
    | false => exact .ty (.lst (.inl h1)) (hT _ (by simp))
    | true => exact .ty (.tup h1) (hT _ (by simp))
theorem rv_ownE {Cc : Ct} {out : Out → Cells → Prop} {E : XK} {d : D} {b : Bool} (kr : Cells) (l : Io (k1 ++ kr) x C fs b) (hT : EqT K C) (ly : Eo (k1 ++ kr) y C) (hC : Cc [x, y] k1 out) (ho : ∀ o k, out o k → o = .ret d ∧ k = k1) : RvD K (rOwnE2 K C (spC K Cc) E) (k1 ++ kr) x y (.val d) := fun B F0 ro ta sg H u v Q e h1 h2 q => by
  obtain ⟨a, dx, xs, rfl, ha⟩ := l.en e h1
  refine ⟨a, dx, xs, rfl, ha, ly.at hT e h2, sp_ret (ws := [x, y]) (ta := ta) (e.held fun p hp => ?_) rfl hC ho q⟩
  rcases List.mem_append.mp hp with hp | hp
  · simp at hp
    rcases hp with rfl | rfl
    · exact h1
    · exact h2
  · exact hp
theorem rv_ownN {Cc : Ct} {out : Out → Cells → Prop} {E : XK} {c : Bool} {b : Bool} (kr : Cells) (l : Io (k1 ++ kr) x C fs b) (hT : EqT K C) (ly : Eo (k1 ++ kr) y C) (hC : Cc [x, y] k1 out) (ho : ∀ o k, out o k → o = .ret (.bl c) ∧ k = k1) : RvD K (rOwnN2 K C (spC K Cc) E) (k1 ++ kr) x y (.val (.bl (!c))) := fun B F0 ro ta sg H u v Q e h1 h2 q => by
  obtain ⟨a, dx, xs, rfl, ha⟩ := l.en e h1
  refine ⟨a, dx, xs, rfl, ha, ly.at hT e h2, sp_ret (ws := [x, y]) (ta := ta) (e.held fun p hp => ?_) rfl hC ho fun v2 H' e2 => ?_⟩
  · rcases List.mem_append.mp hp with hp | hp
    · simp at hp
      rcases hp with rfl | rfl
      · exact h1
      · exact h2
    · exact hp
  · exact ⟨c, e2.tm_bl List.mem_cons_self, q _ _ (e2.pop.push_imm fun _ => rfl)⟩
/-- own << other and the like: the other of a built-in type -/
structure TyWf (K : PySem.W.Frag) (C : Addr) (op : Operator) (ka : Cells) (y : W) : Prop where
  at_ : ∀ B F0 ro ta sg H u, En K B F0 ro ka ta sg H → (u, y) ∈ ta → ∃ T, TyV K H u T ∧ BoT K C op T
theorem tyw_int {op : Operator} {i : Int} (t : BoT K C op "int") : TyWf K C op ka (.val (.int i)) := ⟨fun B F0 ro ta sg H u e h => by obtain rfl := e.tm_int h; exact ⟨_, .int, t⟩⟩
theorem tyw_bl {op : Operator} {i : Bool} (t : BoT K C op "bool") : TyWf K C op ka (.val (.bl i)) := ⟨fun B F0 ro ta sg H u e h => by obtain rfl := e.tm_bl h; exact ⟨_, .bl, t⟩⟩
theorem tyw_str {op : Operator} {i : Str} (t : BoT K C op "str") : TyWf K C op ka (.val (.str i)) := ⟨fun B F0 ro ta sg H u e h => by obtain rfl := e.tm_str h; exact ⟨_, .str, t⟩⟩
theorem tyw_non {op : Operator} (t : BoT K C op "NoneType") : TyWf K C op ka (.val .non) := ⟨fun B F0 ro ta sg H u e h => by obtain rfl := e.tm_non h; exact ⟨_, .non, t⟩⟩
theorem tyw_tup {op : Operator} {w : W} {ds : List D} {b : Bool} (l : Lk ka w true ds b) (t : BoT K C op "tuple") : TyWf K C op ka w := ⟨fun B F0 ro ta sg H u e h => by
  obtain ⟨F, g, e⟩ := e
  obtain ⟨a, xs, rfl, h1, _⟩ := l.get e (e.tm _ h)
  exact ⟨_, .tup h1, t⟩⟩
theorem tyw_lst {op : Operator} {w : W} {ds : List D} {b : Bool} (l : Lk ka w false ds b) (t : BoT K C op "list") : TyWf K C op ka w := ⟨fun B F0 ro ta sg H u e h => by
  obtain ⟨F, g, e⟩ := e
  obtain ⟨a, xs, rfl, h1, _⟩ := l.get e (e.tm _ h)
  exact ⟨_, .lst (.inl h1), t⟩⟩
theorem rv_ownT {Cc : Ct} {op : Operator} {out : Out → Cells → Prop} {E : XK} {d : D} {b : Bool} (kr : Cells) (l : Io (k1 ++ kr) x C fs b) (t : TyWf K C op (k1 ++ kr) y) (hC : Cc [x, y] k1 out) (ho : ∀ o k, out o k → o = .ret d ∧ k = k1) : RvD K (rOwnT2 K C op (spC K Cc) E) (k1 ++ kr) x y (.val d) := fun B F0 ro ta sg H u v Q e h1 h2 q => by
  obtain ⟨a, dx, xs, rfl, ha⟩ := l.en e h1
  obtain ⟨T, ty, bt⟩ := t.at_ _ _ _ _ _ _ _ e h2
  refine ⟨a, dx, xs, T, rfl, ha, ty, bt, sp_ret (ws := [x, y]) (ta := ta) (e.held fun p hp => ?_) rfl hC ho q⟩
  rcases List.mem_append.mp hp with hp | hp
  · simp at hp
    rcases hp with rfl | rfl
    · exact h1
    · exact h2
  · exact hp
end
end DL

/-! DH: making objects, isinstance, conversions, exceptions by data (own work). -/
namespace DL
open PySem L2 PySem.W

section
variable {K : PySem.W.Frag} {B F F0 : Hp} {ro : Ro} {ka k1 k2 k3 kr : Cells} {ta : List (V × W)} {sg : L2.St} {H H' : Hp} {te tf tg : TE} {tr : TA} {tt : TT} {w x y z : W} {n : Nd} {C dx a : Addr} {fs : List (Str × D)} {b : Bool} {P : L2.St → Hp → Prop}

/-! ### an instance cell, frozen -/
theorem En.freeze_i (e : En K B F0 ro (ka ++ [(a, .ins C fs)]) ta sg H) : En K B F0 ro ka ((.ref a, .val (.ins C fs)) :: ta) sg H := by
  obtain ⟨F, g, e⟩ := e
  obtain ⟨fa, ba, dx, xs, ha, rl⟩ := e.ce (a, .ins C fs) (by simp)
  have gg : Gr B F (upd F a (.ins C dx xs)) := ⟨Sub.new fa, fun b h1 h2 => by
    have ne : b ≠ a := fun q => h2 (q ▸ ba)
    rw [upd_ne ne]
    exact h1⟩
  have nd2 := e.nd
  rw [List.map_append, List.nodup_append] at nd2
  refine ⟨upd F a (.ins C dx xs), g.trans gg, ⟨fun b u h => ?_, fun b u h => ?_, e.fr, nd2.1, fun q hq => ?_, e.ln, fun i w h => ?_, fun q hq => ?_⟩⟩
  · by_cases hb : b = a
    · subst hb; rw [upd_same] at h; cases h; rfl
    · rw [upd_ne hb] at h; exact e.nz b u h
  · by_cases hb : b = a
    · subst hb; rw [upd_same] at h; cases h; exact .inl ha
    · rw [upd_ne hb] at h; exact e.fz b u h
  · obtain ⟨h1, h2, h3⟩ := e.ce q (List.mem_append_left _ hq)
    have nq : q.1 ≠ a := fun z => nd2.2.2 q.1 (List.mem_map.mpr ⟨q, hq, rfl⟩) a (by simp) z
    exact ⟨by rw [upd_ne nq]; exact h1, h2, ndok_gr e.nz gg h3⟩
  · obtain ⟨v, h1, h2⟩ := e.sl i w h
    exact ⟨v, h1, wok_gr e.nz gg h2⟩
  · rcases List.mem_cons.mp hq with rfl | hq
    · exact ⟨a, dx, xs, rfl, .inl upd_same, RpF.mono gg.sub.exz e.nz _ _ rl⟩
    · exact wok_gr e.nz gg (e.tm q hq)
theorem EvN.ins {fs : List (Str × D)} (h : EvN K te ro ka (.ins C fs) k1) : EvD K te ro ka (.val (.ins C fs)) k1 := fun B F0 ta sg H Q e q => h B F0 ta sg H Q e fun a H1 e1 => q _ _ e1.freeze_i
/-- fewer cells -/
theorem En.less (e : En K B F0 ro ka ta sg H) (h : k1.Sublist ka) : En K B F0 ro k1 ta sg H := let ⟨F, g, q⟩ := e; ⟨F, g, q.cells h⟩
theorem EvD.less (h : EvD K te ro ka w k1) (s : k2.Sublist k1) : EvD K te ro ka w k2 := fun B F0 ta sg H Q e q => h B F0 ta sg H Q e fun v H1 e1 => q v H1 (e1.less s)
theorem Gp.less (h : Gp K B F0 ta P ro k1) (s : k1.Sublist ka) : Gp K B F0 ta P ro ka := fun sg H e => h sg H (e.less s)
theorem En.forget (e : En K B F0 ro ka ta sg H) {ro' : Ro} (hl : ro'.length = ro.length) (h : ∀ (i : Nat) w, ro'[i]? = some (some w) → ro[i]? = some (some w)) : En K B F0 ro' ka ta sg H := let ⟨F, g, q⟩ := e; ⟨F, g, q.forget hl h⟩

/-! ### C(e, ..) -/
/-- C(..): __init__ by contract; a new cell -/
theorem evn_make {Cc : Ct} {ws : List W} {E : XK} {m : Nd} (ha : EvA K tr ro ka ws k1)
    (hC : ∀ a, ∃ out, Cc (.val (.adr a) :: ws) (k1 ++ [(a, .ins C [])]) out ∧ ∀ o k, out o k → o = .ret .non ∧ k = k2 ++ [(a, m)]) : EvN K (tMake C (spC K Cc) [] E tr) ro ka m k2 := fun B F0 ta sg H Q e q =>
  ha B F0 ta sg H _ e fun vs H1 hl e1 => by
    intro x dx hx hd hne
    rw [List.append_nil]
    obtain ⟨F, g, e1⟩ := e1
    obtain ⟨e2, g2⟩ := e1.lay (o := .own x) hd rfl
    have hx2 : upd H1 dx (.own x) x = none := by rw [upd_ne (Ne.symm hne)]; exact hx
    have e3 := e2.cell (o := .ins C dx []) hx2 (n := .ins C []) ⟨dx, [], upd_same, rfl⟩
    have e4 := e3.push (v := .ref x) (w := .val (.adr x)) rfl
    obtain ⟨out, hC, ho⟩ := hC x
    have e5 : En K B F0 ro ((k1 ++ [(x, .ins C [])]) ++ []) ((V.ref x :: vs).zip (W.val (.adr x) :: ws) ++ ta) sg (upd (upd H1 dx (.own x)) x (.ins C dx [])) := by
      rw [List.append_nil]
      exact ⟨_, g.trans g2, e4⟩
    refine sp_ret (k2 := k2 ++ [(x, m)]) e5 (by rw [List.length_cons, List.length_cons, hl]) hC ho fun v H' e6 => ?_
    rw [List.append_nil] at e6
    exact ⟨e6.tm_non List.mem_cons_self, q x H' e6.pop⟩
theorem evx_make {Cc : Ct} {ws : List W} {E : XK} {C1 : Addr} {gs : List (Str × D)} {Q : VK} (ha : EvA K tr ro ka ws k1)
    (hC : ∀ a, ∃ out, Cc (.val (.adr a) :: ws) (k1 ++ [(a, .ins C [])]) out ∧ ∀ o k, out o k → o = .exc C1 gs ∧ k = k2)
    (e : En K B F0 ro ka ta sg H) (q : ∀ dx H', En K B F0 ro (k2 ++ [(dx, .xd gs)]) ta sg H' → E (.ref C1) (some dx) H') : tMake C (spC K Cc) [] E tr sg H Q :=
  ha B F0 ta sg H _ e fun vs H1 hl e1 => by
    intro x dx hx hd hne
    rw [List.append_nil]
    obtain ⟨F, g, e1⟩ := e1
    obtain ⟨e2, g2⟩ := e1.lay (o := .own x) hd rfl
    have hx2 : upd H1 dx (.own x) x = none := by rw [upd_ne (Ne.symm hne)]; exact hx
    have e3 := e2.cell (o := .ins C dx []) hx2 (n := .ins C []) ⟨dx, [], upd_same, rfl⟩
    have e4 := e3.push (v := .ref x) (w := .val (.adr x)) rfl
    obtain ⟨out, hC, ho⟩ := hC x
    have e5 : En K B F0 ro ((k1 ++ [(x, .ins C [])]) ++ []) ((V.ref x :: vs).zip (W.val (.adr x) :: ws) ++ ta) sg (upd (upd H1 dx (.own x)) x (.ins C dx [])) := by
      rw [List.append_nil]
      exact ⟨_, g.trans g2, e4⟩
    refine sp_exc e5 (by rw [List.length_cons, List.length_cons, hl]) hC ho fun dx H' e6 => ?_
    rw [List.append_nil] at e6
    exact q dx H' e6
/-- self.f = e, self a cell -/
def putD (f : Str) (v : D) : List (Str × D) → List (Str × D)
  | [] => [(f, v)]
  | (g, x) :: r => if g = f then (g, v) :: r else (g, x) :: putD f v r
theorem rpf_put {F : Hp} {f : Str} {v : V} {d : D} (hv : Rp K F d v) : ∀ {fs : List (Str × D)} {xs : List (Str × V)}, RpF K F fs xs → RpF K F (putD f d fs) (putF f v xs)
  | [], xs, h => by rw [show xs = [] from h]; exact ⟨v, [], rfl, hv, rfl⟩
  | (g, d0) :: fs, xs, h => by
    obtain ⟨x, ys, rfl, h1, h2⟩ := h
    unfold putD putF
    by_cases q : g = f
    · rw [if_pos q, if_pos q]
      exact ⟨v, ys, rfl, hv, h2⟩
    · rw [if_neg q, if_neg q]
      exact ⟨x, _, rfl, h1, rpf_put hv h2⟩
theorem rpf_len {F : Hp} : ∀ {fs : List (Str × D)} {xs : List (Str × V)}, RpF K F fs xs → xs.length = fs.length
  | [], xs, h => by rw [show xs = [] from h]; rfl
  | _ :: fs, xs, h => by
    obtain ⟨x, ys, rfl, _, h2⟩ := h
    rw [List.length_cons, List.length_cons, rpf_len h2]
theorem g_fld {f : Str} {d : D} {j : Nat} {De : Ends} (hv : EvD K tf ro ka (.val d) k1) (ho : EvD K te ro k1 (.val (.adr a)) k2) (hj : k2[j]? = some (a, .ins C fs)) (c : Cls K C) (nf : NoAttr K C f) (hz : fs.length < 900)
    (k : Gp K B F0 ta De.nx ro (k2.set j (a, .ins C (putD f d fs)))) : Gp K B F0 ta (sFld K te tf f De) ro ka := fun sg H e => hv B F0 ta sg H _ e fun v H1 e1 => ho B F0 _ sg H1 _ e1 fun u H2 e2 => by
  have hu := e2.tm_adr List.mem_cons_self
  subst hu
  obtain ⟨F, g, e2⟩ := e2
  obtain ⟨_, _, dx, xs, hx, rx⟩ := e2.ce _ (List.mem_of_getElem? hj)
  have hv := e2.tm (v, .val d) (List.mem_cons_of_mem _ List.mem_cons_self)
  refine ⟨a, C, dx, xs, rfl, hx, c, nf, by rw [rpf_len rx]; omega, k _ _ ⟨F, g, ?_⟩⟩
  exact (e2.write (o := .ins C dx (putF f v xs)) (n' := .ins C (putD f d fs)) hj ⟨dx, _, upd_same, rpf_put hv rx⟩).held fun p hp => List.mem_cons_of_mem _ (List.mem_cons_of_mem _ hp)
theorem q_fld {f : Str} {d : D} {j : Nat} {De : Ends} {u : TS} (hv : EvD K tf ro ka (.val d) k1) (ho : EvD K te ro k1 (.val (.adr a)) k2) (hj : k2[j]? = some (a, .ins C fs)) (c : Cls K C) (nf : NoAttr K C f) (hz : fs.length < 900)
    (k : Gp K B F0 ta (u De) ro (k2.set j (a, .ins C (putD f d fs)))) : Gp K B F0 ta (tSeq (sFld K te tf f) u De) ro ka := g_fld (De := { De with nx := u De }) hv ho hj c nf hz k

/-! ### isinstance -/
/-- the class facts for isinstance -/
structure ClsI (K : PySem.W.Frag) (C : Addr) : Prop where
  cl : Cls K C
  ha : findIn K (.ref C) "__class__" = some (some (.builtin "object.__class__"))
  hn : specialIn K (.builtin "object.__class__") "__get__" = some (some (.builtin "getset_descriptor.__get__"))
  htk : takesIn K (.builtin "object.__class__") = some true
  hm : mroIn K C (.type "object") = some true
/-- the type of what w stands for -/
inductive Tw (K : PySem.W.Frag) (ka : Cells) : W → Value → Prop where
  | non : Tw K ka (.val .non) (.type "NoneType")
  | bl {i : Bool} : Tw K ka (.val (.bl i)) (.type "bool")
  | int {i : Int} : Tw K ka (.val (.int i)) (.type "int")
  | str {i : Str} : Tw K ka (.val (.str i)) (.type "str")
  | lst {u : W} {ds : List D} {b1 : Bool} (l : Lk ka u false ds b1) : Tw K ka u (.type "list")
  | tup {u : W} {ds : List D} {b1 : Bool} (l : Lk ka u true ds b1) : Tw K ka u (.type "tuple")
  | io {u : W} {D1 : Addr} {gs : List (Str × D)} {b1 : Bool} (l : Io ka u D1 gs b1) (c : ClsI K D1) : Tw K ka u (.ref D1)
theorem Tw.at {t : Value} {v : V} (l : Tw K ka w t) (e : En K B F0 ro ka ta sg H) (h : (v, w) ∈ ta) : TyX K H v t := by
  cases l with
  | non => obtain rfl := e.tm_non h; exact .base .non
  | bl => obtain rfl := e.tm_bl h; exact .base (.bl _)
  | int => obtain rfl := e.tm_int h; exact .base (.int _)
  | str => obtain rfl := e.tm_str h; exact .base (.str _)
  | lst l =>
    obtain ⟨F, g, e⟩ := e
    obtain ⟨a, xs, rfl, h1, _⟩ := l.get e (e.tm _ h)
    rcases (show Rd H a (.lst xs) from h1) with h1 | ⟨o, h1⟩
    · exact .base (.lst h1)
    · exact .base (.frz h1)
  | tup l =>
    obtain ⟨F, g, e⟩ := e
    obtain ⟨a, xs, rfl, h1, _⟩ := l.get e (e.tm _ h)
    rcases (show SqT K H a xs from h1) with h1 | h1
    · rcases h1 with h1 | ⟨o, h1⟩
      · exact .base (.tup h1)
      · exact .fTuple h1
    · obtain ⟨o, its, n, q1, q2, _⟩ := h1
      exact .kTuple q1 q2
  | io l c =>
    obtain ⟨a, dx, xs, rfl, ha⟩ := l.en e h
    exact .base (.ins ha c.cl c.ha c.hn c.htk c.hm)
theorem rc_isi {T : String} {t : Value} {b : Bool} (l : Tw K ka w t) (h : kitOne K t (.type T) = some b) : RcD K (rIsi K) ka [w, .val (.ty T)] (.val (.bl b)) := fun B F0 ro ta sg H us Q e hl hm q => by
  obtain ⟨u, v, rfl, h1, h2⟩ := zip_two hl hm
  have hv : v = .ty T := e.tm_ty h2
  subst hv
  exact ⟨u, .ty T, t, .type T, b, rfl, .ty T, l.at e h1, h, q _ _ (e.push_imm fun _ => rfl)⟩
theorem rc_isiC {t : Value} {C1 : Addr} {b : Bool} (l : Tw K ka w t) (h : kitOne K t (.ref C1) = some b) : RcD K (rIsi K) ka [w, .val (.adr C1)] (.val (.bl b)) := fun B F0 ro ta sg H us Q e hl hm q => by
  obtain ⟨u, v, rfl, h1, h2⟩ := zip_two hl hm
  obtain rfl := e.tm_adr h2
  exact ⟨u, .ref C1, t, .ref C1, b, rfl, .own C1, l.at e h1, h, q _ _ (e.push_imm fun _ => rfl)⟩
end
end DL

/-! DJ: raise, try, by data; conversions (own work). -/
namespace DL
open PySem L2 PySem.W

/-! ### own exception classes -/
/-- the class object of an own error: its kind, its line of classes, its slots -/
def lineOk (C : Addr) (cd : ClassData) : Bool := !cd.hasDel && (cd.hasDict && (match cd.mro with
  | x :: r => x == .ref C && PySem.HandSPX.refsVE r
  | [] => false))
def slotsOk (sl : Array (Option Value)) : Bool := sl.size == 6 && sl[4]? == some (some (.builtin "ValueError.__new__"))
def errObj (C : Addr) (o : Obj) : Bool := o.cls == .type "type" && (slotsOk o.slots && (match o.data with
  | .cls cd => lineOk C cd
  | _ => false))
def oexB (K : PySem.W.Frag) (C : Addr) : Bool := (K.lookup C).any (errObj C) && (decide (findIn K (.ref C) "__setattr__" = some (some (.builtin "object.__setattr__"))) && (decide (subIn K (.ref C) (.type "BaseException") = some true) && (decide (typeIn K (.ref C) = some (.type "type")) && keepIn K (.ref C))))
theorem slots_six {sl : Array (Option Value)} (h : slotsOk sl = true) : ∃ a b c d e, sl = #[a, b, c, d, some (.builtin "ValueError.__new__"), e] := by
  obtain ⟨h1, h2⟩ := Bool.and_eq_true_iff.mp h
  have h1 := beq_iff_eq.mp h1
  have h2 := beq_iff_eq.mp h2
  obtain ⟨l⟩ := sl
  match l, h1, h2 with
  | [a, b, c, d, x, e], _, h2 =>
    have : x = some (.builtin "ValueError.__new__") := by simpa using h2
    exact ⟨a, b, c, d, e, by rw [this]⟩
theorem oexB_ok {K : PySem.W.Frag} {C : Addr} (h : oexB K C = true) : OexC K C := by
  have h := Bool.and_eq_true_iff.mp h
  have r1 := Bool.and_eq_true_iff.mp h.2
  have r2 := Bool.and_eq_true_iff.mp r1.2
  have r3 := Bool.and_eq_true_iff.mp r2.2
  refine ⟨?_, of_decide_eq_true r1.1, of_decide_eq_true r2.1, of_decide_eq_true r3.1, r3.2⟩
  obtain ⟨o, ho, h1⟩ : ∃ o, K.lookup C = some o ∧ errObj C o = true := by
    cases q : K.lookup C with
    | none => have := h.1; rw [q] at this; cases this
    | some o => have := h.1; rw [q] at this; exact ⟨o, rfl, this⟩
  have k1 := Bool.and_eq_true_iff.mp h1
  have k2 := Bool.and_eq_true_iff.mp k1.2
  have hc := beq_iff_eq.mp k1.1
  obtain ⟨s0, s1, s2, s3, s5, hs⟩ := slots_six k2.1
  obtain ⟨oc, od, dt, sl⟩ := o
  cases dt with
  | cls cd =>
    have l1 := Bool.and_eq_true_iff.mp (show (!cd.hasDel && (cd.hasDict && _)) = true from k2.2)
    have l2 := Bool.and_eq_true_iff.mp l1.2
    have hdel : cd.hasDel = false := by simpa using l1.1
    have hdict : cd.hasDict = true := l2.1
    cases hm : cd.mro with
    | nil => have := l2.2; rw [hm] at this; cases this
    | cons x r =>
      have l3 : (x == .ref C && PySem.HandSPX.refsVE r) = true := by have := l2.2; rw [hm] at this; exact this
      have l4 := Bool.and_eq_true_iff.mp l3
      have hx := beq_iff_eq.mp l4.1
      refine ⟨cd.name, cd.qualname, cd.ns, cd.bases, r, cd.slotNames, cd.subclasses, cd.abstract, cd.collection, od, s0, s1, s2, s3, s5, ?_, l4.2⟩
      rw [ho]
      have hc : oc = .type "type" := hc
      have hs : sl = _ := hs
      subst hc hs hx
      cases cd
      cases hm
      cases hdel
      cases hdict
      rfl
  | _ => cases k2.2
/-- what a raised own error with fields asks of the text -/
structure Xc (K : PySem.W.Frag) (C : Addr) : Prop where
  oex : OexC K C
  xf : XfC K C
def xcB (K : PySem.W.Frag) (C : Addr) : Bool := oexB K C && xfB K C
theorem xcB_ok {K : PySem.W.Frag} {C : Addr} (h : xcB K C = true) : Xc K C := let ⟨a, b⟩ := Bool.and_eq_true_iff.mp h; ⟨oexB_ok a, xfB_ok b⟩
/-- __init__(self, x): self.f = x -/
def spI1 (K : PySem.W.Frag) (C : Addr) (f : Str) : Sp := fun vs H Q _ => ∃ a y, vs = [.ref a, y] ∧ OexC K C ∧ findIn K (.ref C) f = some none ∧ H a = some (exo a C none) ∧
  ∀ d, H d = none → d ≠ a → Q .non (upd (upd H d (exd d [(f, y)])) a (exo a C (some d)))
theorem init1_ok {P : Program} {w : World} {K : PySem.W.Frag} {mg : Str → Option Value} {base : Heap} {f C : Addr} {fd : FuncData} {nm qual x fld : Str} {params : Arguments} {body : List Stmt} {scope : Scope} {k : Nat} {CX : CXT}
    (F : FunD K nm qual params body scope [] [] f fd) (S : FnScope ["self", x] ["self", x] scope)
    (h : ∀ (cdv : Value) (A : Around) (outer : List Env) (s : Shared) (H : Hp) (E : XK), PSs (cxOf CX P w K mg base ["self", x] qual scope f cdv A outer s H E) body (tOst K fld (tVar 0) (tVar 1))) : FnOk P w K mg base CX (k + 1) f fd ["self", x] (spI1 K C fld) :=
  F.ok S (fun vs H Q E ⟨a, y, e, _⟩ => by rw [e]; rfl) fun cdv A outer s H vs Q E hr ⟨a, y, e, T, hno, ha, q⟩ => ⟨_, h cdv A outer s H E, by
    subst e
    exact ⟨y, rfl, .ref a, rfl, a, C, rfl, T, hno, .inl ⟨ha, q⟩⟩⟩
/-- an own error class made without arguments: a new object, no fields -/
theorem pmk_zero {X : Cx} {C : Addr} {mros : List Value} {base new ini : String} {x : Str} {p pos : Pos} (facts : PySem.ExcBaseFacts base new ini mros) (known : excIn X.K C mros new = true) (here : X.mg x = some (.ref C)) (kept : keepIn X.K (.ref C) = true) (up : Raises X (.ref C)) (glob : Gl X x)
    (plain : (x == ("__debug__" : Str)) = false := by decide) : PMk X (.Call (.Name x p) [] [] pos) (fun _ H Q => Q (.ref C) none H) := fun pins s sg H Q I want => by
  obtain ⟨mro, ns, cn, qn, bases, dct, slots, subs, abst, coll, dd, a0, a1, a2, a3, a5, mN, look, space, noInit, tail⟩ := exc_obj I.kIn known
  have made := PySem.wpAny_call_exc_subT (prog := X.prog) (w := X.w) (A := X.A) (Q := MkP X pins sg Q) (E := X.xe) (rest := []) facts tail look space noInit (fun h' e new => mk_of (I.tok _) new up want (I.hok.gone new.new)) (Nat.zero_le _)
  exact wpAny_Call_Name_kw (ld_glob (pos := p) (E := X.xe) I glob here (callWith_K0 (first := []) I.kIn kept made) plain)

section
variable {K : PySem.W.Frag} {B F F0 : Hp} {ro : Ro} {ka k1 k2 k3 kr : Cells} {ta : List (V × W)} {sg : L2.St} {H H' : Hp} {te tf tg : TE} {tr : TA} {tt : TT} {w x y z : W} {n : Nd} {C dx a : Addr} {fs : List (Str × D)} {b : Bool} {P : L2.St → Hp → Prop}
theorem mk1_of {fld : Str} {d : D} {Q : XK} (ha : EvA K tr ro ka [.val d] k1) (T : OexC K C) (hno : findIn K (.ref C) fld = some none) (e : En K B F0 ro ka ta sg H)
    (q : ∀ dx H', En K B F0 ro (k1 ++ [(dx, .xd [(fld, d)])]) ta sg H' → Q (.ref C) (some dx) H') : tMkO C (spI1 K C fld) [] tr sg H Q := ha B F0 ta sg H _ e fun vs H1 hl e1 => by
  match vs, hl with
  | [v], _ =>
    refine ⟨by show 1 ≤ 1000; omega, fun a hna => ⟨a, v, rfl, T, hno, upd_same, fun dd hd hne => ⟨rfl, dd, [(fld, v)], upd_same, ?_, ?_, ?_⟩⟩⟩
    · rw [upd_ne hne, upd_same]
    · rwa [upd_ne hne] at hd
    · have hd1 : H1 dd = none := by rwa [upd_ne hne] at hd
      have eH : upd (del (upd (upd (upd H1 a (exo a C none)) dd (exd dd [(fld, v)])) a (exo a C (some dd))) a) dd (.xd [(fld, v)]) = upd H1 dd (.xd [(fld, v)]) := by
        funext b
        by_cases h1 : b = dd
        · subst h1
          rw [upd_same, upd_same]
        · rw [upd_ne h1, upd_ne h1]
          by_cases h2 : b = a
          · subst h2
            rw [del_same, hna]
          · rw [del_ne h2, upd_ne h2, upd_ne h1, upd_ne h2]
      rw [eH]
      obtain ⟨F, g, e1⟩ := e1
      have hv : WOk K B F v (.val d) := e1.tm _ (List.mem_append_left _ List.mem_cons_self)
      exact q dd _ ⟨F, g, (e1.cell (o := .xd [(fld, v)]) hd1 (n := .xd [(fld, d)]) ⟨_, upd_same, v, [], rfl, hv, rfl⟩).held fun p hp => List.mem_append_right _ hp⟩
theorem En.leaveX (e : En K B F0 ro ka ta sg H) : En K B F0 [] ka [] [] H :=
  let ⟨F, g, q⟩ := e
  ⟨F, g, (q.frame (ro' := []) (sg' := []) rfl fun i w h => by simp at h).held fun p hp => by cases hp⟩
theorem g_raise1 {fld : Str} {d : D} {out : Out → Cells → Prop} {E : XK} (hX : RxOk K B F0 out E) (ha : EvA K tr ro ka [.val d] k1) (T : OexC K C) (hno : findIn K (.ref C) fld = some none) (o : out (.exc C [(fld, d)]) k1) :
    Gp K B F0 ta (fun σ H => tMkO C (spI1 K C fld) [] tr σ H fun cls dd H' => E cls dd H') ro ka := fun sg H e => mk1_of ha T hno e fun dx H' e' => hX.1 C _ k1 dx H' o e'.leaveX
theorem g_raise0 {out : Out → Cells → Prop} {E : XK} (hX : RxOk K B F0 out E) (o : out (.exc0 C) ka) : Gp K B F0 ta (fun σ H => E (.ref C) none H) ro ka := fun sg H e => hX.2 C ka H o e.leaveX

/-! ### try -/
/-- what is wished of an exception, whatever the slots hold -/
def XW (n : Nat) (Wx : WX) : XK := fun cls d H => ∀ σ : L2.St, σ.length = n → Wx cls d σ H
theorem pass_xw {X : Cx} {Wx : WX} (tk : Takes X Wx) : Passes (L2.CX X.prog X.w) X (XW X.N.length Wx) := fun _ σ _ _ e s' I c => tk e s' (XE.of_call I (fun _ _ _ h => h σ I.len) c)
theorem xw_as {c : Value} {i : Nat} {ts : Addr → Value → Option Addr → TS} {Wout : WX} {De : Ends} (hx : exmOne K (.ref C) c = some true)
    (h : ∀ a, Gp K B F0 ta (ts a (.ref C) (some dx) { nx := fun σ' H' => De.nx (σ'.set i none) H', rt := De.rt, bk := fun σ' H' => De.bk (σ'.set i none) H', ct := fun σ' H' => De.ct (σ'.set i none) H' }) ((List.replicate ro.length none).set i (some (.val (.adr a)))) ka)
    (e : En K B F0 ro ka ta sg H) : XW ro.length (wAs K c i ts Wout De) (.ref C) (some dx) H := fun σ hσ => ⟨true, hx, fun _ a _ => by
      refine h a _ _ ?_
      obtain ⟨F, g, e⟩ := e
      have e2 := e.frame (ro' := List.replicate ro.length none) (sg' := σ) (by rw [List.length_replicate, hσ]) fun i w q => by
        rw [List.getElem?_replicate] at q
        split at q <;> cases q
      exact En.setA ⟨F, g, e2⟩ i a, fun z => by cases z⟩
/-- e.f of the exception -/
theorem ev_xf {f : Str} {d : D} {j : Nat} (he : EvD K te ro ka (.val (.adr a)) k1) (hj : k1[j]? = some (dx, .xd fs)) (hd : fs.lookup f = some d) : EvD K (tXf a (.ref C) (some dx) C f te) ro ka (.val d) k1 := fun B F0 ta sg H Q e q => he B F0 ta sg H _ e fun v H1 e1 => by
  have hv := e1.tm_adr List.mem_cons_self
  subst hv
  obtain ⟨F, g, e1⟩ := e1
  obtain ⟨_, _, xs, hx, rx⟩ := e1.ce _ (List.mem_of_getElem? hj)
  obtain ⟨v, l, rv⟩ := rpf_lookup rx hd
  exact ⟨rfl, rfl, dx, xs, v, rfl, hx, l, q v H1 ⟨F, g, (e1.held (ta' := ta) fun p hp => List.mem_cons_of_mem _ hp).push rv⟩⟩

/-! ### conversions -/
def rTupU (K : PySem.W.Frag) : List V → Hp → VK → Prop := fun xs H Q => ∃ p ys, xs = [.ref p] ∧ ((SqL K H p ys ∧ ∀ l, H l = none → Q (.ref l) (upd H l (.tup ys))) ∨ (SqT K H p ys ∧ Q (.ref p) H))
def rLstU (K : PySem.W.Frag) : List V → Hp → VK → Prop := fun xs H Q => ∃ p ys, xs = [.ref p] ∧ (SqL K H p ys ∨ SqT K H p ys) ∧ ∀ l, H l = none → Q (.ref l) (upd H l (.lst ys))
def rIntU : List V → Hp → VK → Prop := fun xs H Q => (∃ i, xs = [.int i] ∧ Q (.int i) H) ∨ ∃ k, xs = [.bl k] ∧ Q (.int (if k then 1 else 0)) H
def rAbsU : List V → Hp → VK → Prop := fun xs H Q => ∃ i, xs = [.int i] ∧ Q (.int (if i < 0 then -i else i)) H
theorem call_tupU {X : Cx} : CallR X (.type "tuple") (rTupU X.K) := call_tuple_of
theorem call_lstU {X : Cx} : CallR X (.type "list") (rLstU X.K) := call_list_of
theorem call_intU {X : Cx} : CallR X (.type "int") rIntU := call_int1
theorem call_absU {X : Cx} : CallR X (.builtin "abs") rAbsU := call_abs
theorem rpl_imm {F G : Hp} : ∀ {ds : List D} {xs : List V}, ds.all imm = true → RpL K F ds xs → RpL K G ds xs
  | [], _, _, h => h
  | d :: ds, xs, hi, h => by
    obtain ⟨x, ys, rfl, h1, h2⟩ := h
    rw [List.all_cons, Bool.and_eq_true] at hi
    exact ⟨x, ys, rfl, imm_any hi.1 h1, rpl_imm hi.2 h2⟩
/-- a sequence's items may be told as frozen -/
def SqF (b : Bool) (ds : List D) : Prop := b = false ∨ ds.all imm = true
theorem SqF.to {ds : List D} {xs : List V} (h : SqF b ds) (r : RpL K (if b then uni B F else F) ds xs) : RpL K F ds xs := by
  rcases h with h | h
  · subst h; exact r
  · exact rpl_imm h r
theorem rc_tupL {ds : List D} (l : Lk ka w false ds b) (hf : SqF b ds) : RcD K (rTupU K) ka [w] (.val (.tup ds)) := fun B F0 ro ta sg H us Q e hl hm q => by
  obtain ⟨u, rfl, hu⟩ := zip_one hl hm
  obtain ⟨F, g, e⟩ := e
  obtain ⟨a, xs, rfl, h1, h2⟩ := l.get e (e.tm _ hu)
  have r2 := hf.to h2
  refine ⟨a, xs, rfl, .inl ⟨.inl h1, fun p hp => q _ _ ?_⟩⟩
  obtain ⟨e4, g4⟩ := e.lay (o := .tup xs) hp rfl
  exact ⟨_, g.trans g4, e4.push ⟨p, _, rfl, .inl (.inl upd_same), RpL.mono g4.sub.exz e.nz _ _ r2⟩⟩
theorem rc_tupT {ds : List D} : RcD K (rTupU K) ka [.val (.tup ds)] (.val (.tup ds)) := fun B F0 ro ta sg H us Q e hl hm q => by
  obtain ⟨u, rfl, hu⟩ := zip_one hl hm
  obtain ⟨F, g, e⟩ := e
  obtain ⟨a, xs, rfl, h1, h2⟩ := Lk.vt.get e (e.tm _ hu)
  exact ⟨a, xs, rfl, .inr ⟨h1, q _ _ ⟨F, g, e.push (e.tm _ hu)⟩⟩⟩
theorem rcn_lst {t : Bool} {ds : List D} (l : Lk ka w t ds b) (hf : SqF b ds) : RcN K (rLstU K) ka [w] (.lst ds) := fun B F0 ro ta sg H us Q e hl hm q => by
  obtain ⟨u, rfl, hu⟩ := zip_one hl hm
  obtain ⟨F, g, e⟩ := e
  obtain ⟨a, xs, rfl, h1, h2⟩ := l.at e (e.tm _ hu)
  have r2 := hf.to h2
  exact ⟨a, xs, rfl, h1, fun p hp => q p _ ⟨F, g, e.cell (o := .lst xs) hp (n := .lst ds) ⟨_, upd_same, r2⟩⟩⟩
theorem rc_int {i : Int} : RcD K rIntU ka [.val (.int i)] (.val (.int i)) := fun B F0 ro ta sg H us Q e hl hm q => by
  obtain ⟨u, rfl, hu⟩ := zip_one hl hm
  obtain rfl := e.tm_int hu
  exact .inl ⟨i, rfl, q _ _ (e.push_imm fun _ => rfl)⟩
theorem rc_abs {i : Int} : RcD K rAbsU ka [.val (.int i)] (.val (.int (if i < 0 then -i else i))) := fun B F0 ro ta sg H us Q e hl hm q => by
  obtain ⟨u, rfl, hu⟩ := zip_one hl hm
  obtain rfl := e.tm_int hu
  exact ⟨i, rfl, q _ _ (e.push_imm fun _ => rfl)⟩
theorem rpl_bls {F : Hp} : ∀ {bs : List Bool} {xs : List V}, RpL K F (bs.map D.bl) xs → xs = bs.map V.bl
  | [], _, h => h
  | b :: bs, xs, h => by
    obtain ⟨x, ys, rfl, h1, h2⟩ := h
    rw [show x = V.bl b from h1, rpl_bls h2]
    rfl
theorem rc_all {bs : List Bool} (l : Lk ka w false (bs.map D.bl) b) : RcD K (rAll K) ka [w] (.val (.bl (bs.all id))) := fun B F0 ro ta sg H us Q e hl hm q => by
  obtain ⟨u, rfl, hu⟩ := zip_one hl hm
  obtain ⟨F, g, e⟩ := e
  obtain ⟨a, xs, rfl, h1, h2⟩ := l.get e (e.tm _ hu)
  have := rpl_bls h2
  subst this
  exact ⟨a, bs, rfl, .inl h1, q _ _ ⟨F, g, e.push rfl⟩⟩
theorem rc_any {bs : List Bool} (l : Lk ka w false (bs.map D.bl) b) : RcD K (rAny K) ka [w] (.val (.bl (bs.any id))) := fun B F0 ro ta sg H us Q e hl hm q => by
  obtain ⟨u, rfl, hu⟩ := zip_one hl hm
  obtain ⟨F, g, e⟩ := e
  obtain ⟨a, xs, rfl, h1, h2⟩ := l.get e (e.tm _ hu)
  have := rpl_bls h2
  subst this
  exact ⟨a, bs, rfl, .inl h1, q _ _ ⟨F, g, e.push rfl⟩⟩
/-- a sign in a text -/
theorem rv_inS {c : Nat} {s : Str} : RvD K rInS ka (.val (.str ⟨#[c]⟩)) (.val (.str s)) (.val (.bl (decide (c ∈ s.cps.toList)))) := fun B F0 ro ta sg H u v Q e h1 h2 q =>
  ⟨c, s, e.tm_str h1, e.tm_str h2, q _ _ (e.push_imm fun _ => rfl)⟩
/-- list * number, the list a cell -/
theorem evn_opC {r : R2} {m : Nd} {d : D} (ha : EvN K te ro ka n k1) (hb : EvD K tf ro k1 (.val d) k2) (hr : ∀ a, RvN K r (k2 ++ [(a, n)]) (.val (.adr a)) (.val d) m) : EvN K (tOp r te tf) ro ka m k2 := fun B F0 ta sg H Q e q =>
  ha B F0 ta sg H _ e fun a H1 e1 => by
    refine hb.fr [(a, n)] B F0 ((.ref a, .val (.adr a)) :: ta) sg H1 _ (e1.push_imm fun _ => rfl) fun v H2 e2 => ?_
    refine hr a B F0 ro _ sg H2 (.ref a) v Q e2 (List.mem_cons_of_mem _ List.mem_cons_self) List.mem_cons_self fun t H3 e3 => ?_
    refine q t H3 ((e3.less ?_).held fun p hp => List.mem_cons_of_mem _ (List.mem_cons_of_mem _ hp))
    exact (List.sublist_append_left k2 _).append (List.Sublist.refl _)
theorem rvn_rep {j : Nat} {ds : List D} {i : Int} (hj : ka[j]? = some (a, .lst ds)) (h0 : 0 ≤ i) (h1 : i ≤ 1000) (h2 : ds.length ≤ 1000) : RvN K rRep ka (.val (.adr a)) (.val (.int i)) (.lst (List.replicate i.toNat ds).flatten) := fun B F0 ro ta sg H u v Q e hu hv q => by
  obtain rfl := e.tm_adr hu
  obtain rfl := e.tm_int hv
  obtain ⟨F, g, e⟩ := e
  obtain ⟨xs, hx, rx⟩ := e.rd_lst hj
  refine ⟨a, i, xs, rfl, rfl, hx, by omega, by omega, ?_, fun p hp => q p _ ⟨F, g, e.cell (o := .lst (List.replicate i.toNat xs).flatten) hp (n := .lst (List.replicate i.toNat ds).flatten) ⟨_, upd_same, rpl_repl rx _⟩⟩⟩
  rw [rpl_len rx]
  have h3 : i.toNat ≤ 1000 := by omega
  exact Nat.le_trans (Nat.mul_le_mul h2 h3) (by decide)
theorem rpl_ints {F : Hp} : ∀ (zs : List Int), RpL K F (zs.map D.int) (zs.map V.int)
  | [] => rfl
  | z :: zs => ⟨.int z, _, rfl, rfl, rpl_ints zs⟩
/-- list(range(i, j)) -/
theorem evn_lstRg {i j : Int} (ha : EvD K te ro ka (.val (.int i)) k1) (hb : EvD K tf ro k1 (.val (.int j)) k2) (h : RgOk i j) : EvN K (tLstRg (tRg2 te tf)) ro ka (.lst ((List.range (j - i).toNat).map fun m : Nat => .int (i + m))) k2 := fun B F0 ta sg H Q e q =>
  ha B F0 ta sg H _ e fun u H1 e1 => hb B F0 _ sg H1 _ e1 fun v H2 e2 => by
    have hu := e2.tm_int (v := u) (i := i) (List.mem_cons_of_mem _ List.mem_cons_self)
    have hv := e2.tm_int (v := v) (i := j) List.mem_cons_self
    refine ⟨i, j, hu, hv, h, fun p hp => q p _ ?_⟩
    obtain ⟨F, g, e2⟩ := e2
    refine ⟨F, g, (e2.cell (o := .lst (rgV i j)) hp (n := .lst _) ⟨_, upd_same, ?_⟩).held fun p hp => List.mem_cons_of_mem _ (List.mem_cons_of_mem _ hp)⟩
    have := rpl_ints (K := K) (F := F) ((List.range (j - i).toNat).map fun m : Nat => i + (m : Int))
    rw [List.map_map, List.map_map] at this
    exact this
/-- xs[::-1] of a list -/
theorem evn_revL {ds : List D} (ha : EvD K te ro ka w k1) (l : Lk k1 w false ds b) (hf : SqF b ds) : EvN K (tRevL K te) ro ka (.lst ds.reverse) k1 := fun B F0 ta sg H Q e q => ha B F0 ta sg H _ e fun u H1 e1 => by
  obtain ⟨F, g, e1⟩ := e1
  obtain ⟨a, xs, rfl, h1, h2⟩ := l.get e1 (e1.tm _ List.mem_cons_self)
  exact ⟨a, xs, rfl, .inl h1, fun p hp => q p _ ⟨F, g, (e1.cell (o := .lst xs.reverse) hp (n := .lst ds.reverse) ⟨_, upd_same, rpl_rev (hf.to h2)⟩).held fun p hp => List.mem_cons_of_mem _ hp⟩⟩
/-- a slot's cell is frozen -/
theorem Gp.frz {i j : Nat} {ds : List D} (hi : ro[i]? = some (some (.val (.adr a)))) (hj : ka[j]? = some (a, .lst ds)) (h : Gp K B F0 ta P (ro.set i (some (.val (.lst ds)))) (ka.eraseIdx j)) : Gp K B F0 ta P ro ka := fun sg H e => by
  have hp : (ka.eraseIdx j ++ [(a, Nd.lst ds)]).Perm ka := by
    have hlt := (List.getElem?_eq_some_iff.mp hj).1
    have h2 : ka[j] = (a, Nd.lst ds) := (List.getElem?_eq_some_iff.mp hj).2
    have e3 : ka = ka.take j ++ (a, Nd.lst ds) :: ka.drop (j + 1) := by
      rw [← h2, List.getElem_cons_drop, List.take_append_drop]
    rw [List.eraseIdx_eq_take_drop_succ]
    refine List.Perm.trans List.perm_append_comm ?_
    show (((a, Nd.lst ds)) :: (ka.take j ++ ka.drop (j + 1))).Perm ka
    refine List.Perm.trans List.perm_middle.symm ?_
    rw [← e3]
  obtain ⟨F, g, e2⟩ := (e.perm hp).freeze_l
  refine h sg H ⟨F, g, (e2.frame (ro' := ro.set i (some (.val (.lst ds)))) (sg' := sg) (by rw [List.length_set]; exact e2.ln) fun k w q => ?_).held fun p hp => List.mem_cons_of_mem _ hp⟩
  by_cases hik : i = k
  · subst hik
    have hl := (List.getElem?_eq_some_iff.mp hi).1
    rw [List.getElem?_set_self hl] at q
    cases q
    obtain ⟨v, h1, h2⟩ := e2.sl i _ hi
    obtain rfl : v = .ref a := h2
    exact ⟨.ref a, h1, e2.tm _ List.mem_cons_self⟩
  · rw [List.getElem?_set_ne hik] at q
    exact e2.sl k w q
end
end DL

/-! DK: what the head tells of a text's defs and classes (own work). -/
namespace DL
open PySem L2 PySem.W

/-- the getter of the property m of the class at C -/
def pga (K : PySem.W.Frag) (C : Addr) (m : Str) : Addr := match recIn K (He.ma K C m) "property" with
  | some (.ref g :: _) => g
  | _ => 0
/-! the picture of a def: all that the text fixes of it -/
structure Pic where
  nm : Str
  qn : Str
  pars : Arguments
  code : FuncBody
  sco : Scope
  env : Addr × Addr
  clo : List (Str × Addr)
def picOf (f : FuncData) : Pic := ⟨f.name, f.qualname, f.params, f.body, f.scope, (f.globals, f.builtins), f.closure⟩
def asFn : Data → Option FuncData
  | .func f => some f
  | _ => none
def fnAt (K : PySem.W.Frag) (a : Addr) : Option FuncData := (K.lookup a).bind fun o => asFn o.data
theorem asFn_some {dt : Data} {f : FuncData} (h : asFn dt = some f) : dt = .func f := by
  cases dt <;> first | (cases h; rfl) | cases h
theorem fnAt_some {K : PySem.W.Frag} {a : Addr} {f : FuncData} (h : fnAt K a = some f) : ∃ o, K.lookup a = some o ∧ o.data = .func f := by
  obtain ⟨o, h1, h2⟩ := Option.bind_eq_some_iff.mp h
  exact ⟨o, h1, asFn_some h2⟩
/-- a def of the text: where it stands, its picture, its defaults -/
structure Df where
  at_ : PySem.W.Frag → Addr
  name : Str
  qual : Str
  params : Arguments
  body : List Stmt
  scope : Scope
  dfs : PySem.W.Frag → List V
def Df.pic (d : Df) : Pic := ⟨d.name, d.qual, d.params, .stmts d.body, d.scope, (mainGlobals, builtinsNs), []⟩
def Df.good (K : PySem.W.Frag) (d : Df) : Bool := keepIn K (.ref (d.at_ K)) && (fnAt K (d.at_ K)).any fun f => codeIn K f.code d.qual && (He.dflB K f.defaults (d.dfs K) && He.kwdB K f.kwdefaults [])
theorem Df.known {K : PySem.W.Frag} {d : Df} (e : (fnAt K (d.at_ K)).map picOf = some d.pic) (c : d.good K = true) : ∃ fd, FunD K d.name d.qual d.params d.body d.scope (d.dfs K) [] (d.at_ K) fd := by
  have c' := Bool.and_eq_true_iff.mp c
  cases hf : fnAt K (d.at_ K) with
  | none =>
    rw [hf] at e
    cases e
  | some f =>
    rw [hf] at e c'
    have c2 : (codeIn K f.code d.qual && (He.dflB K f.defaults (d.dfs K) && He.kwdB K f.kwdefaults [])) = true := c'.2
    have c3 := Bool.and_eq_true_iff.mp c2
    have c4 := Bool.and_eq_true_iff.mp c3.2
    obtain ⟨o, lk, hd⟩ := fnAt_some hf
    have same : f = PySem.W.fnOf d.name d.qual d.params d.body d.scope f.defaults f.kwdefaults f.doc f.pyModule f.annotations f.code f.closureTuple := by
      have e1 : picOf f = d.pic := Option.some.inj e
      have n := congrArg Pic.nm e1
      have qn := congrArg Pic.qn e1
      have ps := congrArg Pic.pars e1
      have bd := congrArg Pic.code e1
      have sc := congrArg Pic.sco e1
      have ev := congrArg Pic.env e1
      have cl := congrArg Pic.clo e1
      have g := congrArg Prod.fst ev
      have bt := congrArg Prod.snd ev
      cases f
      cases n; cases qn; cases ps; cases bd; cases sc; cases cl; cases g; cases bt
      rfl
    have lk2 : K.lookup (d.at_ K) = some ⟨o.cls, o.dict, .func f, o.slots⟩ := by
      rw [lk, ← hd]
    exact ⟨f, ⟨o.cls, o.dict, f.defaults, f.kwdefaults, f.doc, f.pyModule, f.annotations, f.code, f.closureTuple, o.slots, same, lk2, c3.1, He.dflB_ok c4.1, He.kwdB_ok c4.2⟩, c'.1⟩
abbrev Fx := PySem.W.Frag → Bool
/-- all facts and all defs of a text, looked at in one heap -/
abbrev AlY : Type := Bool × List (Option Pic)
def lookY (ex : List Fx) (fn : List Df) (K : PySem.W.Frag) : AlY := (ex.all (· K) && fn.all (Df.good K), fn.map fun d => (fnAt K (d.at_ K)).map picOf)
def dueY (fn : List Df) : AlY := (true, fn.map fun d => some d.pic)
def SaysY (ex : List Fx) (fn : List Df) (K : PySem.W.Frag) : Prop := lookY ex fn K = dueY fn
def obsYG (n : Nat) (ex : List Fx) (fn : List Df) (g : Addr → Option Obj) : AlY := lookY ex fn (He.frG g (He.asD g n))
def hookY (n : Nat) (ex : List Fx) (fn : List Df) : PySem.W.Hook :=
  { α := AlY, obs := fun s => obsYG n ex fn s.heap.get?, val := fun _ => dueY fn, says := fun _ h => ∃ K : PySem.W.Frag, K.In h ∧ SaysY ex fn K,
    of := fun _ _ e => ⟨_, He.frG_in, e⟩,
    keeps := fun _ _ _ w k => w.elim fun K z => ⟨K, PySem.W.Frag.In.keeps z.1 k, z.2⟩ }
theorem obsYG_eq {n : Nat} {ex : List Fx} {fn : List Df} {g : Addr → Option Obj} {s : Shared} (h : ∀ a, g a = s.heap.get? a) : obsYG n ex fn g = (hookY n ex fn).obs s :=
  congrArg (obsYG n ex fn) (funext h)
section
variable {ex : List Fx} {fn : List Df} {K : PySem.W.Frag}
theorem SaysY.both (c : SaysY ex fn K) : (∀ f ∈ ex, f K = true) ∧ ∀ d ∈ fn, Df.good K d = true := by
  have c1 : (ex.all (· K) && fn.all (Df.good K)) = true := congrArg Prod.fst c
  rw [Bool.and_eq_true, List.all_eq_true, List.all_eq_true] at c1
  exact c1
theorem SaysY.fact (c : SaysY ex fn K) (i : Nat) {f : Fx} (h : ex[i]? = some f := by rfl) : f K = true := c.both.1 f (List.mem_of_getElem? h)
theorem SaysY.def_ (c : SaysY ex fn K) (i : Nat) {d : Df} (h : fn[i]? = some d := by rfl) : ∃ fd, FunD K d.name d.qual d.params d.body d.scope (d.dfs K) [] (d.at_ K) fd := by
  refine Df.known ?_ (c.both.2 d (List.mem_of_getElem? h))
  have e := congrArg (fun z : AlY => z.2[i]?) c
  simp only [lookY, dueY, List.getElem?_map, h, Option.map_some, Option.some.injEq] at e
  exact e
end
/-! ### the facts, by Bool -/
section
variable {K : PySem.W.Frag} {C : Addr}
def fGlo (x : Str) : Fx := fun K => (He.Fa.glo x).ok K && keepIn K (.ref (He.ga K x))
def fFree (x : Str) : Fx := fun K => (He.Fa.free x).ok K
def fStr (x z : Str) : Fx := fun K => (He.Fa.str x z).ok K
def fInt (x : Str) (i : Int) : Fx := fun K => (He.Fa.int x i).ok K
def fCls (x : Str) : Fx := fun K => (He.Fa.cls x).ok K
def fMkr (x : Str) : Fx := fun K => (He.Fa.mkr x).ok K
def fNoat (x f : Str) : Fx := fun K => (He.Fa.noat x f).ok K
def fMeth (x m : Str) : Fx := fun K => (He.Fa.meth x m).ok K
def fSm (x m : Str) : Fx := fun K => He.eqO (findIn K (.ref (He.ga K x)) m) (some (some (.ref (He.ma K (He.ga K x) m)))) && isFn K (.ref (He.ma K (He.ga K x) m))
theorem sm_ok {x m : Str} (h : fSm x m K = true) : Sm K (He.ga K x) m (He.ma K (He.ga K x) m) := let ⟨a, b⟩ := He.ba h; ⟨He.eqO_ok a, b⟩
def fFn (x m : Str) : Fx := fun K => fnIn K (He.ma K (He.ga K x) m)
def fProp (x m : Str) : Fx := fun K => He.eqO (findIn K (.ref (He.ga K x)) m) (some (some (.ref (He.ma K (He.ga K x) m)))) && (He.eqO (specialIn K (.ref (He.ma K (He.ga K x) m)) "__get__") (some (some (.builtin "property.__get__"))) &&
  (decide (takesIn K (.ref (He.ma K (He.ga K x) m)) = some true) && (match recIn K (He.ma K (He.ga K x) m) "property" with
    | some (.ref _ :: _) => true
    | _ => false)))
theorem prop_ok {x m : Str} (h : fProp x m K = true) : PropOf K (He.ga K x) m (He.ma K (He.ga K x) m) (pga K (He.ga K x) m) := by
  obtain ⟨h1, h⟩ := He.ba h
  obtain ⟨h2, h⟩ := He.ba h
  obtain ⟨h3, h4⟩ := He.ba h
  refine ⟨He.eqO_ok h1, He.eqO_ok h2, of_decide_eq_true h3, ?_⟩
  unfold pga
  split at h4
  · rename_i a r q
    rw [q]
    exact ⟨r, rfl⟩
  · cases h4
def fClsI (x : Str) : Fx := fun K => (He.Fa.cls x).ok K && (He.eqO (findIn K (.ref (He.ga K x)) "__class__") (some (some (.builtin "object.__class__"))) && (He.eqO (specialIn K (.builtin "object.__class__") "__get__") (some (some (.builtin "getset_descriptor.__get__"))) &&
  (decide (takesIn K (.builtin "object.__class__") = some true) && decide (mroIn K (He.ga K x) (.type "object") = some true))))
theorem clsI_ok {x : Str} (h : fClsI x K = true) : ClsI K (He.ga K x) := by
  obtain ⟨h1, h⟩ := He.ba h
  obtain ⟨h2, h⟩ := He.ba h
  obtain ⟨h3, h⟩ := He.ba h
  obtain ⟨h4, h5⟩ := He.ba h
  exact ⟨He.cls_ok h1, He.eqO_ok h2, He.eqO_ok h3, of_decide_eq_true h4, of_decide_eq_true h5⟩
def fEqT (x : Str) : Fx := fun K => ["NoneType", "bool", "int", "str", "list", "tuple"].all fun T => decide (subIn K (.type T) (.ref (He.ga K x)) = some false)
theorem eqT_ok {x : Str} (h : fEqT x K = true) : EqT K (He.ga K x) := fun T hT => of_decide_eq_true (List.all_eq_true.mp h T hT)
def fNe (x : Str) : Fx := fun K => He.eqO (findIn K (.ref (He.ga K x)) "__ne__") (some (some (.builtin "object.__ne__"))) && decide (mroIn K (He.ga K x) (.type "object") = some true)
theorem ne_ok {x : Str} (h : fNe x K = true) : findIn K (.ref (He.ga K x)) "__ne__" = some (some (.builtin "object.__ne__")) ∧ mroIn K (He.ga K x) (.type "object") = some true := let ⟨a, b⟩ := He.ba h; ⟨He.eqO_ok a, of_decide_eq_true b⟩
def fBo (x : Str) (op : Operator) : Fx := fun K => selfFirst K (He.ga K x) && (fSm x (PySem.dunder op.info.2) K && He.eqO (findIn K (.ref (He.ga K x)) (dunderR op.info.2)) (some none))
theorem bo_ok {x : Str} {op : Operator} (h : fBo x op K = true) : Bo K (He.ga K x) op (He.ma K (He.ga K x) (PySem.dunder op.info.2)) := by
  obtain ⟨h1, h⟩ := He.ba h
  obtain ⟨h2, h3⟩ := He.ba h
  exact ⟨h1, sm_ok h2, He.eqO_ok h3⟩
def fBoT (x : Str) (op : Operator) (T : String) : Fx := fun K => (findIn K (.type T) (PySem.dunder op.info.2)).isSome && ((findIn K (.type T) (dunderR op.info.2)).isSome && decide (subIn K (.type T) (.ref (He.ga K x)) = some false))
theorem boT_ok {x : Str} {op : Operator} {T : String} (h : fBoT x op T K = true) : BoT K (He.ga K x) op T := by
  obtain ⟨h1, h⟩ := He.ba h
  obtain ⟨h2, h3⟩ := He.ba h
  exact ⟨Option.isSome_iff_exists.mp h1, Option.isSome_iff_exists.mp h2, of_decide_eq_true h3⟩
def fXc (x : Str) : Fx := fun K => xcB K (He.ga K x)
def fXi (x : Str) : Fx := fun K => He.eqO (findIn K (.ref (He.ga K x)) "__init__") (some (some (.ref (He.ma K (He.ga K x) "__init__")))) && decide (typeIn K (.ref (He.ma K (He.ga K x) "__init__")) = some (.type "function"))
theorem xi_ok {x : Str} (h : fXi x K = true) : findIn K (.ref (He.ga K x)) "__init__" = some (some (.ref (He.ma K (He.ga K x) "__init__"))) ∧ typeIn K (.ref (He.ma K (He.ga K x) "__init__")) = some (.type "function") := let ⟨a, b⟩ := He.ba h; ⟨He.eqO_ok a, of_decide_eq_true b⟩
def fX0 (x : Str) : Fx := fun K => (He.Fa.exc x).ok K
def fExm (x y : Str) (b : Bool) : Fx := fun K => (He.Fa.exm x y b).ok K
def fKit (t T : String) (b : Bool) : Fx := fun K => decide (kitOne K (.type t) (.type T) = some b)
theorem kit_ok {t T : String} {b : Bool} (h : fKit t T b K = true) : kitOne K (.type t) (.type T) = some b := of_decide_eq_true h
/-- is a t an own x -/
def fKitC (t : String) (x : Str) (b : Bool) : Fx := fun K => decide (kitOne K (.type t) (.ref (He.ga K x)) = some b)
theorem kitC_ok {t : String} {x : Str} {b : Bool} (h : fKitC t x b K = true) : kitOne K (.type t) (.ref (He.ga K x)) = some b := of_decide_eq_true h
/-- is an own y an own x -/
def fKitO (y x : Str) (b : Bool) : Fx := fun K => decide (kitOne K (.ref (He.ga K y)) (.ref (He.ga K x)) = some b)
theorem kitO_ok {y x : Str} {b : Bool} (h : fKitO y x b K = true) : kitOne K (.ref (He.ga K y)) (.ref (He.ga K x)) = some b := of_decide_eq_true h
def fKitT (y : Str) (T : String) (b : Bool) : Fx := fun K => decide (kitOne K (.ref (He.ga K y)) (.type T) = some b)
theorem kitT_ok {y : Str} {T : String} {b : Bool} (h : fKitT y T b K = true) : kitOne K (.ref (He.ga K y)) (.type T) = some b := of_decide_eq_true h
end
/-! ### words of the derivations -/
section
variable {X : Cx} {E : XK}
theorem pass_own {E₁ : Value → Shared → Prop} (hs : X.stack = X.env :: X.outer) (hf : X.env.frame = some X.env.locals) (hex : X.ex = []) (hx : X.xe = fun e s' => wpAny (model X.prog X.w) X.A (leaving X.env e) (fun _ s'' => L2.CX X.prog X.w X.outer X.H_0 X.s_0 E e s'') E₁ s') : Passes (L2.CX X.prog X.w) X E :=
  passes_call (takes_of hs hf hex hx) fun _ _ _ _ h => h
def rMulU : R2 := fun x y H Q => rI PySem.IntMulOk (fun i j => .int (i * j)) x y H Q ∨ rRep x y H Q
theorem op_mulU : OpR X (binaryOp .Mult) rMulU := OpR.or (opI fun _ _ _ _ _ _ _ hc q => PyProof.Rows.mul_int q hc) op_rep
def rInU (K : PySem.W.Frag) : R2 := fun x y H Q => rInS x y H Q ∨ rIn K false x y H Q
theorem op_inU : OpR X (compareOp .In) (rInU X.K) := op_inS.or op_in_seq
def rNiU (K : PySem.W.Frag) : R2 := fun x y H Q => rNotInS x y H Q ∨ rIn K true x y H Q
theorem op_niU : OpR X (compareOp .NotIn) (rNiU X.K) := op_notInS.or op_notIn_seq
end
end DL

/-! DL1: contracts by number of arguments, bundles for the printed derivations (own work). -/
namespace DL
open PySem L2 PySem.W
abbrev Oc := Out → Cells → Prop
def Ct1 (R : W → Cells → Oc → Prop) : Ct := fun ws ka out => ∃ a, ws = [a] ∧ R a ka out
def Ct2 (R : W → W → Cells → Oc → Prop) : Ct := fun ws ka out => ∃ a b, ws = [a, b] ∧ R a b ka out
def Ct3 (R : W → W → W → Cells → Oc → Prop) : Ct := fun ws ka out => ∃ a b c, ws = [a, b, c] ∧ R a b c ka out
def Ct4 (R : W → W → W → W → Cells → Oc → Prop) : Ct := fun ws ka out => ∃ a b c d, ws = [a, b, c, d] ∧ R a b c d ka out
def Ct5 (R : W → W → W → W → W → Cells → Oc → Prop) : Ct := fun ws ka out => ∃ a b c d e, ws = [a, b, c, d, e] ∧ R a b c d e ka out
theorem ct1_len {R} : ∀ ws ka out, Ct1 R ws ka out → ws.length = 1 := fun _ _ _ ⟨_, h, _⟩ => by rw [h]; rfl
theorem ct2_len {R} : ∀ ws ka out, Ct2 R ws ka out → ws.length = 2 := fun _ _ _ ⟨_, _, h, _⟩ => by rw [h]; rfl
theorem ct3_len {R} : ∀ ws ka out, Ct3 R ws ka out → ws.length = 3 := fun _ _ _ ⟨_, _, _, h, _⟩ => by rw [h]; rfl
theorem ct4_len {R} : ∀ ws ka out, Ct4 R ws ka out → ws.length = 4 := fun _ _ _ ⟨_, _, _, _, h, _⟩ => by rw [h]; rfl
theorem ct5_len {R} : ∀ ws ka out, Ct5 R ws ka out → ws.length = 5 := fun _ _ _ ⟨_, _, _, _, _, h, _⟩ => by rw [h]; rfl
/-- how a call ends: it comes back with d, the cells k; it raises -/
def Rt (d : D) (k : Cells) : Oc := fun o k' => o = .ret d ∧ k' = k
def Xt (C : Addr) (fs : List (Str × D)) (k : Cells) : Oc := fun o k' => o = .exc C fs ∧ k' = k
def X0 (C : Addr) (k : Cells) : Oc := fun o k' => o = .exc0 C ∧ k' = k
def Nt (n : Nd) (k : Cells) : Oc := fun o k' => ∃ a, o = .ret (.adr a) ∧ k' = k ++ [(a, n)]
section
variable {X : Cx} {k : Nat} {f C : Addr} {ps : List Str} {E : XK} {Ct' : Ct} {x m : Str} {p pos apos : Pos} {e o : Expr} {es : List Expr} {ta te to ti : TE} {t : TA}
abbrev rOwnL (C : Addr) (sp : Sp) (E : XK) : List V → Hp → VK → Prop := fun xs H Q => ∃ a dx fs, xs = [.ref a] ∧ H a = some (.ins C dx fs) ∧ sp xs H (fun v H' => ∃ n : Nat, v = .int n ∧ n ≤ 100000 ∧ Q v H') E
/-- an own error with one field -/
structure Xn (P : Program) (w : World) (K : PySem.W.Frag) (mg : Str → Option Value) (base : Heap) (C : Addr) (fld : Str) : Prop where
  xc : Xc K C
  no : findIn K (.ref C) fld = some none
  ex : ∃ fI fd x, findIn K (.ref C) "__init__" = some (some (.ref fI)) ∧ typeIn K (.ref fI) = some (.type "function") ∧ FnOk P w K mg base (L2.CX P w) 1 fI fd ["self", x] (spI1 K C fld) ∧ Binds K fd ["self", x] []
namespace Xn
variable {P : Program} {w : World} {K : PySem.W.Frag} {mg : Str → Option Value} {base : Heap} {C : Addr} {fld : Str}
noncomputable def fI (Z : Xn P w K mg base C fld) : Addr := Classical.choose Z.ex
noncomputable def fd (Z : Xn P w K mg base C fld) : FuncData := Classical.choose (Classical.choose_spec Z.ex)
noncomputable def px (Z : Xn P w K mg base C fld) : Str := Classical.choose (Classical.choose_spec (Classical.choose_spec Z.ex))
theorem all (Z : Xn P w K mg base C fld) : findIn K (.ref C) "__init__" = some (some (.ref Z.fI)) ∧ typeIn K (.ref Z.fI) = some (.type "function") ∧ FnOk P w K mg base (L2.CX P w) 1 Z.fI Z.fd ["self", Z.px] (spI1 K C fld) ∧ Binds K Z.fd ["self", Z.px] [] :=
  Classical.choose_spec (Classical.choose_spec (Classical.choose_spec Z.ex))
end Xn
theorem un_ow (m : Sm X.K C "__neg__" f) (F : Fn X.prog X.w X.K X.mg X.base k f ps Ct') (hr : Room k X.A) (hx : Passes (L2.CX X.prog X.w) X E) : UnR X (unaryOp .USub) (rOwn1 C (spC X.K Ct') E) := by
  obtain ⟨fd, F, b⟩ := F
  exact un_own m F hr b hx
theorem pe_owix (m : Sm X.K C "__getitem__" f) (hf : fnIn X.K f = true) (F : Fn X.prog X.w X.K X.mg X.base k f ps Ct') (hr : Room (k + 1) X.A) (hx : Passes (L2.CX X.prog X.w) X E) (ho : PE X o to) {i : Expr} (hi : PE X i ti)
    (hs : ∀ a u, subscripted i true (.ref a) u = runValue (.builtin "lifetime.subscript" ⟨[.ref a, u], []⟩) := by intro a u; with_unfolding_all rfl) : PE X (.Subscript o i pos) (tOp (rOwn2 C (spC X.K Ct') E) to ti) := by
  obtain ⟨fd, F, b⟩ := F
  exact pe_ownix m hf F hr b hx ho hi hs
theorem len_ow (m : Sm X.K C "__len__" f) (F : Fn X.prog X.w X.K X.mg X.base k f ps Ct') (hr : Room (k + 1) X.A) (hx : Passes (L2.CX X.prog X.w) X E) :
    CallR X (.builtin "len") (fun xs H Q => ∃ a dx fs, xs = [.ref a] ∧ H a = some (.ins C dx fs) ∧ spC X.K Ct' xs H (fun v H' => ∃ n : Nat, v = .int n ∧ n ≤ 100000 ∧ Q v H') E) := by
  obtain ⟨fd, F, b⟩ := F
  exact len_own m F hr b hx
theorem op_ow {op : Operator} (o : Bo X.K C op f) (F : Fn X.prog X.w X.K X.mg X.base k f ps Ct') (hr : Room k X.A) (hx : Passes (L2.CX X.prog X.w) X E) : OpR X (binaryOp op) (rOwnT2 X.K C op (spC X.K Ct') E) := by
  obtain ⟨fd, F, b⟩ := F
  exact opr_T (op_own o F hr b hx)
theorem eq_ow (m : Sm X.K C "__eq__" f) (F : Fn X.prog X.w X.K X.mg X.base k f ps Ct') (hr : Room k X.A) (hx : Passes (L2.CX X.prog X.w) X E) : OpR X (compareOp .Eq) (rOwnE2 X.K C (spC X.K Ct') E) := by
  obtain ⟨fd, F, b⟩ := F
  exact opr_E (eq_own m F hr b hx)
theorem ne_ow (m : Sm X.K C "__eq__" f) (n : findIn X.K (.ref C) "__ne__" = some (some (.builtin "object.__ne__")) ∧ mroIn X.K C (.type "object") = some true) (F : Fn X.prog X.w X.K X.mg X.base k f ps Ct') (hr : Room (k + 1) X.A) (hx : Passes (L2.CX X.prog X.w) X E) : OpR X (compareOp .NotEq) (rOwnN2 X.K C (spC X.K Ct') E) := by
  obtain ⟨fd, F, b⟩ := F
  exact opr_N (ne_own m n.1 n.2 F hr b hx)
end
end DL
namespace DL
open PySem L2 PySem.W
/-- a constant of the module -/
theorem pe_gv {X : Cx} {x : Str} {pos : Pos} {v : V} (hg : Gl X x) (h : ∃ u, X.mg x = some u ∧ RelV v u) (hd : (x == ("__debug__" : Str)) = false := by decide) : PE X (.Name x pos) (tC v) := let ⟨_, hm, r⟩ := h; pe_glob hg hm r hd
/-- what BlkOk asks, as one thing to be decided -/
def blkB (N : List Str) (sc scope : Scope) (own : List (Str × Nat)) : Bool :=
  decide (scope.kind = .function ∧ (∀ p ∈ own, N[p.2]? = some p.1) ∧ ∀ y ∈ scope.names, scope.names.lookup y.1 = some y.2 ∧ (y.2 = .free → sc.names.lookup y.1 = some .cell ∨ sc.names.lookup y.1 = some .free) ∧ (y.2 = .local ∨ y.2 = .cell → y.1 ∈ own.map (·.1) ∨ y.1 ∉ N))
theorem blk_ok {N : List Str} {sc scope : Scope} {own : List (Str × Nat)} (N' : List Str) (sc' : Scope) (eN : N = N') (eS : sc = sc') (h : blkB N' sc' scope own = true) : BlkOk N sc scope own :=
  let ⟨fn, at_, each⟩ := of_decide_eq_true h
  eN ▸ eS ▸ { kind := fn, uniq := fun y m => (each y m).1, ix := at_, free := fun y m => (each y m).2.1, own := fun y m => (each y m).2.2 }
end DL

/-! DM: shorter words (own work). -/
namespace DL
open PySem L2 PySem.W
section
variable {K : PySem.W.Frag} {B F F0 : Hp} {ro : Ro} {ka k1 k2 k3 kr : Cells} {ta : List (V × W)} {sg : L2.St} {H H' : Hp} {te tf tg : TE} {tr : TA} {tt tu : TT} {w x y z : W} {n m : Nd} {C dx a : Addr} {fs : List (Str × D)} {b : Bool} {P : L2.St → Hp → Prop} {De : Ends} {t u : TS} {E : XK}
theorem ea1 (h : EvD K te ro ka x k1) : EvA K (tCons te tNil) ro ka [x] k1 := ea_cons h ea_nil
theorem ea2 (h : EvD K te ro ka x k1) (h2 : EvD K tf ro k1 y k2) : EvA K (tCons te (tCons tf tNil)) ro ka [x, y] k2 := ea_cons h (ea1 h2)
theorem ea3 (h : EvD K te ro ka x k1) (h2 : EvD K tf ro k1 y k2) (h3 : EvD K tg ro k2 z k3) : EvA K (tCons te (tCons tf (tCons tg tNil))) ro ka [x, y, z] k3 := ea_cons h (ea2 h2 h3)
theorem EvA.to {ws ws' : List W} (h : EvA K tr ro ka ws k1) (e : ws = ws') : EvA K tr ro ka ws' k1 := e ▸ h
/-- the built-in type of data -/
def tyD : D → Option String
  | .non => some "NoneType" | .bl _ => some "bool" | .int _ => some "int" | .str _ => some "str" | .lst _ => some "list" | .tup _ => some "tuple"
  | _ => none
theorem tw_of {d : D} {T : String} (h : tyD d = some T) : Tw K ka (.val d) (.type T) := by
  cases d <;> cases h
  · exact .non
  · exact .bl
  · exact .int
  · exact .str
  · exact .tup .vt
  · exact .lst .vl
theorem ev_isi {T : String} {t : Value} (h : EvD K te ro ka w k1) (l : Tw K k1 w t) (e : kitOne K t (.type T) = some b) : EvD K (tCB (rIsi K) (tCons te (tCons (tC (.ty T)) tNil))) ro ka (.val (.bl b)) k1 := ev_cb (ea2 h ev_ty) (rc_isi l e)
theorem ev_isiC {C1 : Addr} {t : Value} (h : EvD K te ro ka w k1) (l : Tw K k1 w t) (e : kitOne K t (.ref C1) = some b) : EvD K (tCB (rIsi K) (tCons te (tCons (tC (.ref C1)) tNil))) ro ka (.val (.bl b)) k1 := ev_cb (ea2 h ev_ref) (rc_isiC l e)
theorem ev_len {t b : Bool} {ds : List D} (h : EvD K te ro ka w k1) (l : Lk k1 w t ds b) : EvD K (tCB (rLenU K) (tCons te tNil)) ro ka (.val (.int ds.length)) k1 := ev_cb (ea1 h) (rc_len l)
theorem ev_lenS {s : Str} (h : EvD K te ro ka (.val (.str s)) k1) (hs : s.length ≤ 100000) : EvD K (tCB (rLenU K) (tCons te tNil)) ro ka (.val (.int s.length)) k1 := ev_cb (ea1 h) (rc_lenS hs)
theorem ev_eq {d e : D} (h : EvD K te ro ka x k1) (h2 : EvD K tf ro k1 y k2) (l1 : Pk k2 x d) (l2 : Pk k2 y e) (p1 : pl 61 d = true) (p2 : pl 61 e = true) : EvD K (tOp (rEqP K false) te tf) ro ka (.val (.bl (eqD d e))) k2 := ev_op h h2 (rv_eqP l1 l2 p1 p2)
theorem ev_ne {d e : D} (h : EvD K te ro ka x k1) (h2 : EvD K tf ro k1 y k2) (l1 : Pk k2 x d) (l2 : Pk k2 y e) (p1 : pl 61 d = true) (p2 : pl 61 e = true) : EvD K (tOp (rEqP K true) te tf) ro ka (.val (.bl (!eqD d e))) k2 := ev_op h h2 (rv_neP l1 l2 p1 p2)
theorem ev_eqI {i j : Int} (h : EvD K te ro ka (.val (.int i)) k1) (h2 : EvD K tf ro k1 (.val (.int j)) k2) : EvD K (tOp (rEqP K false) te tf) ro ka (.val (.bl (i == j))) k2 := ev_eq h h2 .v .v rfl rfl
theorem ev_neI {i j : Int} (h : EvD K te ro ka (.val (.int i)) k1) (h2 : EvD K tf ro k1 (.val (.int j)) k2) : EvD K (tOp (rEqP K true) te tf) ro ka (.val (.bl (!(i == j)))) k2 := ev_ne h h2 .v .v rfl rfl
theorem ev_eqS {i j : Str} (h : EvD K te ro ka (.val (.str i)) k1) (h2 : EvD K tf ro k1 (.val (.str j)) k2) : EvD K (tOp (rEqP K false) te tf) ro ka (.val (.bl (i == j))) k2 := ev_eq h h2 .v .v rfl rfl
theorem ev_neS {i j : Str} (h : EvD K te ro ka (.val (.str i)) k1) (h2 : EvD K tf ro k1 (.val (.str j)) k2) : EvD K (tOp (rEqP K true) te tf) ro ka (.val (.bl (!(i == j)))) k2 := ev_ne h h2 .v .v rfl rfl
theorem ev_addI {i j : Int} (h : EvD K te ro ka (.val (.int i)) k1) (h2 : EvD K tf ro k1 (.val (.int j)) k2) : EvD K (tOp (rAddU K) te tf) ro ka (.val (.int (i + j))) k2 := ev_op h h2 rv_addI
theorem ev_subI {i j : Int} (h : EvD K te ro ka (.val (.int i)) k1) (h2 : EvD K tf ro k1 (.val (.int j)) k2) : EvD K (tOp rSubI te tf) ro ka (.val (.int (i - j))) k2 := ev_op h h2 rv_sub
theorem ev_mulI {i j : Int} (h : EvD K te ro ka (.val (.int i)) k1) (h2 : EvD K tf ro k1 (.val (.int j)) k2) (c : IntMulOk i j) : EvD K (tOp rMulU te tf) ro ka (.val (.int (i * j))) k2 := ev_op h h2 (rvd_l (rv_I c fun _ => rfl))
theorem ev_mulL {i j : Int} (h : EvD K te ro ka (.val (.int i)) k1) (h2 : EvD K tf ro k1 (.val (.int j)) k2) (c : Builtin.Int.intBits i ≤ 64 := by decide) : EvD K (tOp rMulU te tf) ro ka (.val (.int (i * j))) k2 := ev_mulI h h2 (.of_left c)
theorem ev_mulR {i j : Int} (h : EvD K te ro ka (.val (.int i)) k1) (h2 : EvD K tf ro k1 (.val (.int j)) k2) (c : Builtin.Int.intBits j ≤ 64 := by decide) : EvD K (tOp rMulU te tf) ro ka (.val (.int (i * j))) k2 := ev_mulI h h2 (.of_right c)
theorem ev_modI {i j : Int} (h : EvD K te ro ka (.val (.int i)) k1) (h2 : EvD K tf ro k1 (.val (.int j)) k2) (c : 0 < j) : EvD K (tOp rModI te tf) ro ka (.val (.int (i % j))) k2 := ev_op h h2 (rv_mod c)
theorem ev_divI {i j : Int} (h : EvD K te ro ka (.val (.int i)) k1) (h2 : EvD K tf ro k1 (.val (.int j)) k2) (c : CDiv i j) : EvD K (tOp rDivI te tf) ro ka (.val (.int (i / j))) k2 := ev_op h h2 (rv_div c)
theorem ev_powI {i j : Int} (h : EvD K te ro ka (.val (.int i)) k1) (h2 : EvD K tf ro k1 (.val (.int j)) k2) (c : CPow i j) : EvD K (tOp rPowI te tf) ro ka (.val (.int (i ^ j.toNat))) k2 := ev_op h h2 (rv_pow c)
theorem ev_lt {i j : Int} (h : EvD K te ro ka (.val (.int i)) k1) (h2 : EvD K tf ro k1 (.val (.int j)) k2) : EvD K (tOp rLtI te tf) ro ka (.val (.bl (decide (i < j)))) k2 := ev_op h h2 rv_lt
theorem ev_le {i j : Int} (h : EvD K te ro ka (.val (.int i)) k1) (h2 : EvD K tf ro k1 (.val (.int j)) k2) : EvD K (tOp rLeI te tf) ro ka (.val (.bl (decide (i ≤ j)))) k2 := ev_op h h2 rv_le
theorem ev_gt {i j : Int} (h : EvD K te ro ka (.val (.int i)) k1) (h2 : EvD K tf ro k1 (.val (.int j)) k2) : EvD K (tOp rGtI te tf) ro ka (.val (.bl (decide (j < i)))) k2 := ev_op h h2 rv_gt
theorem ev_ge {i j : Int} (h : EvD K te ro ka (.val (.int i)) k1) (h2 : EvD K tf ro k1 (.val (.int j)) k2) : EvD K (tOp rGeI te tf) ro ka (.val (.bl (decide (j ≤ i)))) k2 := ev_op h h2 rv_ge
theorem ev_int1 {i : Int} (h : EvD K te ro ka (.val (.int i)) k1) : EvD K (tCB rIntU (tCons te tNil)) ro ka (.val (.int i)) k1 := ev_cb (ea1 h) rc_int
theorem ev_addS {i j : Str} (h : EvD K te ro ka (.val (.str i)) k1) (h2 : EvD K tf ro k1 (.val (.str j)) k2) (hz : i.length + j.length ≤ 100000) : EvD K (tOp (rAddU K) te tf) ro ka (.val (.str (i ++ j))) k2 := ev_op h h2 (rv_addS hz)
theorem ev_ix {t b : Bool} {ds : List D} {i : Int} {d : D} (h : EvD K te ro ka w k1) (h2 : EvD K tf ro k1 (.val (.int i)) k2) (l : Lk k2 w t ds b) (hd : atI ds i = some d) : EvD K (tOp (rIx K) te tf) ro ka (part b d) k2 := ev_op h h2 (rv_ix l hd)
theorem ev_ixV {t : Bool} {ds : List D} {i : Int} {d : D} (h : EvD K te ro ka w k1) (h2 : EvD K tf ro k1 (.val (.int i)) k2) (l : Lk k2 w t ds false) (hd : atI ds i = some d) : EvD K (tOp (rIx K) te tf) ro ka (.val d) k2 := ev_ix h h2 l hd
theorem ev_ixS {s : Str} {i : Int} {c : Nat} (h : EvD K te ro ka (.val (.str s)) k1) (h2 : EvD K tf ro k1 (.val (.int i)) k2) (hs : s.length ≤ 100000) (hc : atI s.cps.toList i = some c) : EvD K (tOp (rIx K) te tf) ro ka (.val (.str ⟨#[c]⟩)) k2 := ev_op h h2 (rv_ixS hs hc)
theorem ev_inS {c : Nat} {s : Str} (h : EvD K te ro ka (.val (.str ⟨#[c]⟩)) k1) (h2 : EvD K tf ro k1 (.val (.str s)) k2) : EvD K (tOp (rInU K) te tf) ro ka (.val (.bl (decide (c ∈ s.cps.toList)))) k2 := ev_op h h2 (rvd_l rv_inS)
theorem rv_niS {c : Nat} {s : Str} : RvD K rNotInS ka (.val (.str ⟨#[c]⟩)) (.val (.str s)) (.val (.bl (!decide (c ∈ s.cps.toList)))) := fun B F0 ro ta sg H u v Q e h1 h2 q =>
  ⟨c, s, e.tm_str h1, e.tm_str h2, q _ _ (e.push_imm fun _ => rfl)⟩
theorem ev_niS {c : Nat} {s : Str} (h : EvD K te ro ka (.val (.str ⟨#[c]⟩)) k1) (h2 : EvD K tf ro k1 (.val (.str s)) k2) : EvD K (tOp (rNiU K) te tf) ro ka (.val (.bl (!decide (c ∈ s.cps.toList)))) k2 := ev_op h h2 (rvd_l rv_niS)
theorem rv_catT {ds es : List D} (hz : ds.length + es.length ≤ 100000) : RvD K (rAddU K) ka (.val (.tup ds)) (.val (.tup es)) (.val (.tup (ds ++ es))) := rvd_r (rvd_r (rvd_r fun B F0 ro ta sg H u v Q e h1 h2 q => by
  obtain ⟨F, g, e⟩ := e
  obtain ⟨a, xs, rfl, s1, r1⟩ := Lk.vt.get e (e.tm _ h1)
  obtain ⟨b, ys, rfl, s2, r2⟩ := Lk.vt.get e (e.tm _ h2)
  refine ⟨a, b, xs, ys, rfl, rfl, s1, s2, by rw [rpl_len r1, rpl_len r2]; exact Nat.le_trans hz (by decide), fun h0 => ?_, fun _ h0 => ?_, fun _ _ p hp => ?_⟩
  · have hd : ds = [] := List.eq_nil_of_length_eq_zero (by rw [← rpl_len r1, h0]; rfl)
    subst hd
    exact q _ _ ⟨F, g, e.push (e.tm _ h2)⟩
  · have hd : es = [] := List.eq_nil_of_length_eq_zero (by rw [← rpl_len r2, h0]; rfl)
    subst hd
    rw [List.append_nil] at q
    exact q _ _ ⟨F, g, e.push (e.tm _ h1)⟩
  · obtain ⟨e4, g4⟩ := e.lay (o := .tup (xs ++ ys)) hp rfl
    exact q _ _ ⟨_, g.trans g4, e4.push ⟨p, _, rfl, .inl (.inl upd_same), RpL.mono g4.sub.exz e.nz _ _ (rpl_app r1 r2)⟩⟩))
theorem ev_catT {ds es : List D} (h : EvD K te ro ka (.val (.tup ds)) k1) (h2 : EvD K tf ro k1 (.val (.tup es)) k2) (hz : ds.length + es.length ≤ 100000) : EvD K (tOp (rAddU K) te tf) ro ka (.val (.tup (ds ++ es))) k2 := ev_op h h2 (rv_catT hz)

/-! ### calls -/
/-- a contract that works on no cells -/
theorem ev_callP {Cc : Ct} {ws : List W} {d : D} (ha : EvA K tr ro ka ws k1) (hC : Cc ws [] (Rt d [])) : EvD K (tCall (spC K Cc) [] E tr) ro ka (.val d) k1 := ev_callF (k1 := []) (k2 := []) k1 ha hC fun _ _ h => h
/-- .. on all -/
theorem ev_callA {Cc : Ct} {ws : List W} {d : D} (ha : EvA K tr ro ka ws k1) (hC : Cc ws k1 (Rt d k2)) : EvD K (tCall (spC K Cc) [] E tr) ro ka (.val d) k2 := ev_call ha hC fun _ _ h => h
/-- .. on the first cell -/
theorem ev_call1 {Cc : Ct} {ws : List W} {d : D} (ha : EvA K tr ro ka ws ((a, n) :: kr)) (hC : Cc ws [(a, n)] (Rt d [(a, m)])) : EvD K (tCall (spC K Cc) [] E tr) ro ka (.val d) ((a, m) :: kr) := ev_callF (k1 := [(a, n)]) (k2 := [(a, m)]) kr ha hC fun _ _ h => h
theorem evn_callP {Cc : Ct} {ws : List W} (ha : EvA K tr ro ka ws k1) (hC : Cc ws [] (Nt m [])) : EvN K (tCall (spC K Cc) [] E tr) ro ka m k1 := evn_call (k1 := []) (k2 := []) k1 ha hC fun _ _ h => h
/-- the call's end is told by a word: any data, any cells -/
theorem sp_rel {Cc : Ct} {ws : List W} {out : Oc} {vs : List V} {Q : VK} (e : En K B F0 ro (ka ++ kr) (vs.zip ws ++ ta) sg H) (hl : vs.length = ws.length) (hC : Cc ws ka out) (ho : ∀ o k, out o k → ∃ d, o = .ret d)
    (q : ∀ d k2 v H', out (.ret d) k2 → En K B F0 ro (k2 ++ kr) ((v, .val d) :: ta) sg H' → Q v H') : spC K Cc vs H Q E := by
  obtain ⟨F, g, e⟩ := e
  refine ⟨off H ka, F, ws, ka, out, hC, hl, ⟨F, Gr.refl _ _, e.into (ro' := []) (sg' := []) (ta' := vs.zip ws) rfl (fun i w h => by simp at h) fun p hp => List.mem_append_left _ hp⟩, fun d' k v H' o ⟨F', g', e'⟩ => ?_, fun C fs k dx H' o _ => ?_, fun C k H' o _ => ?_⟩
  · obtain ⟨g2, e2⟩ := e.back g' e' (tb := (v, .val d') :: ta) fun p hp => by
      rcases List.mem_cons.mp hp with rfl | hp
      · exact .inr ⟨d', rfl, List.mem_cons_self⟩
      · exact .inl (List.mem_append_right _ hp)
    exact q d' k v H' o ⟨F', g.trans g2, e2⟩
  · obtain ⟨_, z⟩ := ho _ _ o
    cases z
  · obtain ⟨_, z⟩ := ho _ _ o
    cases z
theorem g_call {Cc : Ct} {ws : List W} {out : Oc} {i : Nat} (kr : Cells) (ha : EvA K tr ro ka ws (k1 ++ kr)) (hC : Cc ws k1 out) (ho : ∀ o k, out o k → ∃ d, o = .ret d) (k : ∀ d k2, out (.ret d) k2 → Gp K B F0 ta De.nx (ro.set i (some (.val d))) (k2 ++ kr)) :
    Gp K B F0 ta (tAsg (tCall (spC K Cc) [] E tr) (gName i) De) ro ka := fun sg H e => ha B F0 ta sg H _ e fun vs H1 hl e1 => by
  rw [List.append_nil]
  exact sp_rel e1 hl hC ho fun d k2 v H' o e2 => k d k2 o _ _ (e2.set i)
theorem q_call {Cc : Ct} {ws : List W} {out : Oc} {i : Nat} (kr : Cells) (ha : EvA K tr ro ka ws (k1 ++ kr)) (hC : Cc ws k1 out) (ho : ∀ o k, out o k → ∃ d, o = .ret d) (k : ∀ d k2, out (.ret d) k2 → Gp K B F0 ta (u De) (ro.set i (some (.val d))) (k2 ++ kr)) :
    Gp K B F0 ta (tSeq (tAsg (tCall (spC K Cc) [] E tr) (gName i)) u De) ro ka := g_call (De := { De with nx := u De }) kr ha hC ho k
/-! ### returns -/
/-- a new cell is handed back as data -/
theorem g_retL {out : Oc} {ds : List D} (hr : RtOk K B F0 out De.rt) (h : EvN K te ro ka (.lst ds) k1) (o : out (.ret (.lst ds)) k1) : Gp K B F0 ta (tRet te De) ro ka := g_ret hr h.lst o
/-- .. as a cell -/
theorem g_retC {out : Oc} (hr : RtOk K B F0 out De.rt) (h : EvN K te ro ka n k1) (o : ∀ a, out (.ret (.adr a)) (k1 ++ [(a, n)])) : Gp K B F0 ta (tRet te De) ro ka := fun sg H e => h B F0 ta sg H _ e fun a H1 e1 =>
  hr (.adr a) _ (.ref a) H1 (o a) ((e1.push_imm (v := .ref a) (w := .val (.adr a)) fun _ => rfl).leave)
/-- .. of which a word tells -/
theorem g_retR {out : Oc} {R : Nd → Cells → Prop} (hr : RtOk K B F0 out De.rt) (h : EvNR K te ro ka R) (o : ∀ n k, R n k → ∃ ds, n = .lst ds ∧ out (.ret (.lst ds)) k) : Gp K B F0 ta (tRet te De) ro ka := fun sg H e => h B F0 ta sg H _ e fun n k a H1 r e1 => by
  obtain ⟨ds, rfl, o⟩ := o n k r
  exact hr (.lst ds) k (.ref a) H1 o e1.freeze_l.leave
theorem g_asgNR {R : Nd → Cells → Prop} {i : Nat} (h : EvNR K te ro ka R) (k : ∀ n k1 a, R n k1 → Gp K B F0 ta De.nx (ro.set i (some (.val (.adr a)))) (k1 ++ [(a, n)])) : Gp K B F0 ta (tAsg te (gName i) De) ro ka := fun sg H e => h B F0 ta sg H _ e fun n k1 a H1 r e1 => k n k1 a r _ _ (e1.setA i a)
theorem q_asgNR {R : Nd → Cells → Prop} {i : Nat} (h : EvNR K te ro ka R) (k : ∀ n k1 a, R n k1 → Gp K B F0 ta (u De) (ro.set i (some (.val (.adr a)))) (k1 ++ [(a, n)])) : Gp K B F0 ta (tSeq (tAsg te (gName i)) u De) ro ka := g_asgNR (De := { De with nx := u De }) h k
/-- a return of a call's end -/
theorem g_retS {Cc : Ct} {ws : List W} {out out' : Oc} (kr : Cells) (hr : RtOk K B F0 out De.rt) (ha : EvA K tr ro ka ws (k1 ++ kr)) (hC : Cc ws k1 out') (ho : ∀ o k, out' o k → ∃ d, o = .ret d) (o : ∀ d k2, out' (.ret d) k2 → out (.ret d) (k2 ++ kr)) :
    Gp K B F0 ta (tRet (tCall (spC K Cc) [] E tr) De) ro ka := fun sg H e => ha B F0 ta sg H _ e fun vs H1 hl e1 => by
  rw [List.append_nil]
  exact sp_rel e1 hl hC ho fun d k2 v H' o' e2 => hr d _ v H' (o d k2 o') e2.leave
theorem Gp.perm (h : Gp K B F0 ta P ro k1) (s : k1.Perm ka) : Gp K B F0 ta P ro ka := fun sg H e => h sg H (e.perm s)
/-- slots are forgotten -/
theorem Gp.forget {ro' : Ro} (h : Gp K B F0 ta P ro' ka) (hl : ro'.length = ro.length) (hs : ∀ (i : Nat) w, ro'[i]? = some (some w) → ro[i]? = some (some w)) : Gp K B F0 ta P ro ka := fun sg H e => h sg H (e.forget hl hs)
end
end DL

/-! DN: comprehensions that map and choose; names, numbers (own work). -/
namespace DL
open PySem L2 PySem.W
section
variable {K : PySem.W.Frag} {ro : Ro} {ka k1 : Cells} {te : TE} {tt : TT} {wi : TI} {C : Cells → Prop} {j : Nat} {vs : List Nat} {α : Type}
theorem et_yes : EvT K tYes ro ka true ka := fun B F0 ta sg H Q e q => q H e
theorem take_succ_some {xs : List α} {i : Nat} {x : α} (h : xs[i]? = some x) : xs.take (i + 1) = xs.take i ++ [x] := by
  rw [List.take_succ, h]
  rfl
theorem evn_filt {xs : List α} {g : α → W} {f : α → D} {p : α → Bool} (h : EvI K wi ro ka (xs.map g) C k1) (hj : j ∈ vs) (hn : xs.length ≤ 1000000) (hC : C k1 ∧ ∀ x, C (k1 ++ [x]))
    (ht : ∀ x ∈ xs, EvT K tt ((wipeR ro vs).set j (some (g x))) k1 (p x) k1) (hs : ∀ x ∈ xs, p x = true → EvD K te ((wipeR ro vs).set j (some (g x))) k1 (.val (f x)) k1) : EvN K (tLc wi (gName j) tt te vs) ro ka (.lst ((xs.filter p).map f)) k1 := by
  refine evn_lc h hj (by rw [List.length_map]; exact hn) (fun i acc k => acc = ((xs.take i).filter p).map f ∧ k = k1) ⟨rfl, rfl⟩ (fun i acc k ⟨_, e⟩ => by subst e; exact hC) (fun i w acc k hw ⟨e1, e2⟩ => ?_) (fun acc k ⟨e1, e2⟩ => ⟨?_, e2⟩)
  · subst e1 e2
    rw [List.getElem?_map] at hw
    cases hx : xs[i]? with
    | none => rw [hx] at hw; cases hw
    | some x =>
      rw [hx] at hw
      cases hw
      have hm : x ∈ xs := List.mem_of_getElem? hx
      cases hp : p x with
      | false =>
        refine .inl ⟨k, hp ▸ ht x hm, ?_, rfl⟩
        rw [take_succ_some hx, List.filter_append]
        simp [hp]
      | true =>
        refine .inr ⟨k, k, f x, hp ▸ ht x hm, hs x hm hp, ?_, rfl⟩
        rw [take_succ_some hx, List.filter_append]
        simp [hp]
  · rw [e1, List.length_map, List.take_length]
theorem evn_map {xs : List α} {g : α → W} {f : α → D} (h : EvI K wi ro ka (xs.map g) C k1) (hj : j ∈ vs) (hn : xs.length ≤ 1000000) (hC : C k1 ∧ ∀ x, C (k1 ++ [x]))
    (hs : ∀ x ∈ xs, EvD K te ((wipeR ro vs).set j (some (g x))) k1 (.val (f x)) k1) : EvN K (tLc wi (gName j) tYes te vs) ro ka (.lst (xs.map f)) k1 := by
  have := evn_filt (tt := tYes) (p := fun _ => true) h hj hn hC (fun _ _ => et_yes) (fun x hx _ => hs x hx)
  have e : xs.filter (fun _ => true) = xs := List.filter_eq_self.mpr fun _ _ => rfl
  rwa [e] at this
end
/-! ### texts -/
theorem str_len (s : Str) : s.length = s.cps.toList.length := by
  show s.cps.size = _
  simp
theorem str_ext {s t : Str} (h : s.cps.toList = t.cps.toList) : s = t := by
  cases s with
  | mk a =>
    cases t with
    | mk b =>
      have : a = b := by
        have h2 : a.toList = b.toList := h
        exact Array.toList_inj.mp h2
      rw [this]
theorem str_nil {s : Str} (h : s.cps.toList = []) : s = ("" : Str) := str_ext h
def letL : List Nat := ("abcdefghijklmnopqrstuvwxyz" : Str).cps.toList
def digL : List Nat := ("0123456789" : Str).cps.toList
/-- is a text a name: its signs -/
def nmL : List Nat → Bool
  | [] => false
  | c :: r => decide ((c :: r).length ≤ 8) && (decide (c ∈ letL) && (c :: r).all fun x => decide (x ∈ letL) || decide (x ∈ digL))
def isNm (s : Str) : Bool := nmL s.cps.toList
theorem isNm_len {s : Str} (h : isNm s = true) : s.length ≤ 8 := by
  unfold isNm at h
  rw [str_len]
  cases hc : s.cps.toList with
  | nil => simp
  | cons c r =>
    rw [hc] at h
    unfold nmL at h
    rw [Bool.and_eq_true] at h
    exact of_decide_eq_true h.1
/-- .. data -/
def isNmD : D → Bool
  | .str s => isNm s
  | _ => false
/-- data that a name's test may be asked of -/
def nmOk : D → Prop
  | .str s => s.length ≤ 1000
  | d => tyD d ≠ none
/-- is it a whole number -/
def isWh : D → Bool
  | .int _ => true
  | _ => false
theorem at0 {β : Type} {c : β} {r : List β} : atI (c :: r) 0 = some c := atI_nat (j := 0) rfl
theorem atZ {β : Type} {xs : List β} {i : Int} {x : β} (h0 : 0 ≤ i) (h : xs[i.toNat]? = some x) : atI xs i = some x := by
  have := atI_nat h
  rwa [Int.toNat_of_nonneg h0] at this
/-! ### cuts -/
theorem six_nat {n : Nat} {i : Int} (h0 : 0 ≤ i) (h1 : i ≤ n) (d : Nat) : HT.sIx n d (some i) = i.toNat := by
  unfold HT.sIx
  simp only
  first
    | omega
    | (split <;> omega)
    | (repeat' split) <;> omega
theorem six_none {n d : Nat} : HT.sIx n d none = d := rfl
theorem cut_from {β : Type} {xs : List β} {i : Int} (h0 : 0 ≤ i) (h1 : i ≤ xs.length) : cutD xs (some i) none = xs.drop i.toNat := by
  unfold cutD
  rw [six_nat h0 h1, six_none]
  exact List.take_of_length_le (by rw [List.length_drop]; exact Nat.le_refl _)
theorem cut_to {β : Type} {xs : List β} {i : Int} (h0 : 0 ≤ i) (h1 : i ≤ xs.length) : cutD xs none (some i) = xs.take i.toNat := by
  unfold cutD
  rw [six_nat h0 h1, six_none, List.drop_zero, Nat.sub_zero]
theorem cut_len {β : Type} (xs : List β) (lo hi : Option Int) : (cutD xs lo hi).length ≤ xs.length := by
  unfold cutD
  rw [List.length_take, List.length_drop]
  omega
/-! ### texts in lists -/
theorem eqD_str {a b : Str} : eqD (.str a) (.str b) = (a == b) := rfl
def stD (ss : List Str) : List D := ss.map .str
theorem stD_len (ss : List Str) : (stD ss).length = ss.length := List.length_map ..
theorem pl_stD (ss : List Str) (n : Nat) : (stD ss).all (pl n) = true := List.all_eq_true.mpr fun d hd => by
  obtain ⟨s, _, rfl⟩ := List.mem_map.mp hd
  cases n <;> rfl
theorem eqL_stD : ∀ xs ys : List Str, eqL (stD xs) (stD ys) = decide (xs = ys)
  | [], [] => rfl
  | [], _ :: _ => rfl
  | _ :: _, [] => rfl
  | x :: xs, y :: ys => by
    have ih := eqL_stD xs ys
    show (eqD (.str x) (.str y) && eqL (stD xs) (stD ys)) = _
    rw [ih, eqD_str]
    by_cases h1 : x = y
    · subst h1
      by_cases h2 : xs = ys
      · subst h2; simp
      · simp [h2]
    · simp [h1]
theorem lk1 {β : Type} {f : Str} {v : β} : List.lookup f [(f, v)] = some v := by simp [List.lookup]
theorem part_of {b : Bool} {ds : List D} (h : SqF b ds) {d : D} (hd : d ∈ ds) : part b d = .val d := by
  rcases h with h | h
  · subst h; rfl
  · have := List.all_eq_true.mp h d hd
    unfold part
    rw [this]
    simp
section
variable {K : PySem.W.Frag} {ka kr : Cells} {w : W} {t b : Bool} {ds : List D}
theorem Lk.stay (l : Lk ka w t ds b) : Stay w ds ka := by
  cases l with
  | vl => trivial
  | vt => trivial
  | wl => trivial
  | wt => trivial
  | ce j h => exact List.mem_of_getElem? h
theorem Lk.app (l : Lk ka w t ds b) : Lk (ka ++ kr) w t ds b := l.mono _ (by
  have := l.stay
  unfold Stay at this ⊢
  split
  · rename_i a
    exact List.mem_append_left _ this
  · trivial)
theorem rc_tup (l : Lk ka w t ds b) (ht : t = true → b = false) (hf : SqF b ds) : RcD K (rTupU K) ka [w] (.val (.tup ds)) := by
  cases t with
  | false => exact rc_tupL l hf
  | true =>
    have := ht rfl
    subst this
    cases l with
    | vt => exact rc_tupT
end
theorem set_last {β : Type} (k : List β) (x y : β) : (k ++ [x]).set k.length y = k ++ [y] := by
  rw [List.set_append_right _ _ (Nat.le_refl _)]
  simp
theorem get_last {β : Type} (k : List β) (x : β) : (k ++ [x])[k.length]? = some x := by simp
theorem find_first {β : Type} {p : β → Bool} {ds : List β} {i : Nat} {d : β} (h : ∀ e ∈ ds.take i, p e = false) (hi : ds[i]? = some d) (hp : p d = true) : ds.find? p = some d := by
  have e : ds = ds.take i ++ d :: ds.drop (i + 1) := by
    have hl := (List.getElem?_eq_some_iff.mp hi).1
    have h2 : ds[i] = d := (List.getElem?_eq_some_iff.mp hi).2
    rw [← h2, List.getElem_cons_drop, List.take_append_drop]
  rw [e, List.find?_append, List.find?_eq_none.mpr (fun x hx => by rw [h x hx]; exact Bool.false_ne_true)]
  simp [hp]
theorem find_none {β : Type} {p : β → Bool} {ds : List β} (h : ∀ e ∈ ds, p e = false) : ds.find? p = none := List.find?_eq_none.mpr fun x hx => by rw [h x hx]; exact Bool.false_ne_true
end DL
namespace DL
open PySem L2 PySem.W
section
variable {K : PySem.W.Frag} {B F0 : Hp} {ro : Ro} {ka k1 k2 : Cells} {ta : List (V × W)} {tt : TT} {De : Ends} {t u : TS}
/-- an if whose ends meet again under a word -/
theorem q_whenI {b : Bool} (Inv : Ro → Cells → Prop) (h : EvT K tt ro ka b k1) (h1 : b = true → ∀ nx, (∀ ro2 ka2, Inv ro2 ka2 → Gp K B F0 ta nx ro2 ka2) → Gp K B F0 ta (t { De with nx := nx }) ro k1) (h2 : b = false → Inv ro k1) (k : ∀ ro2 ka2, Inv ro2 ka2 → Gp K B F0 ta (u De) ro2 ka2) : Gp K B F0 ta (tSeq (tIfS tt t tNext) u De) ro ka :=
  q_when h (fun hb => h1 hb _ k) fun hb => k _ _ (h2 hb)
theorem q_ifI {b : Bool} {t' : TS} (Inv : Ro → Cells → Prop) (h : EvT K tt ro ka b k1) (h1 : b = true → ∀ nx, (∀ ro2 ka2, Inv ro2 ka2 → Gp K B F0 ta nx ro2 ka2) → Gp K B F0 ta (t { De with nx := nx }) ro k1) (h2 : b = false → ∀ nx, (∀ ro2 ka2, Inv ro2 ka2 → Gp K B F0 ta nx ro2 ka2) → Gp K B F0 ta (t' { De with nx := nx }) ro k1) (k : ∀ ro2 ka2, Inv ro2 ka2 → Gp K B F0 ta (u De) ro2 ka2) : Gp K B F0 ta (tSeq (tIfS tt t t') u De) ro ka :=
  q_if h (fun hb => h1 hb _ k) fun hb => h2 hb _ k
end
/-! ### the pool of the laws -/
structure Pl where
  a : Int
  b : Int
  c : Int
def Pl.ds (p : Pl) : List D := [.int p.a, .int p.b, .int p.c]
structure Pl.Ok (p : Pl) (n : Int) : Prop where
  a0 : 0 ≤ p.a
  b0 : 0 ≤ p.b
  b1 : p.b < 1000000007
  c0 : 0 ≤ p.c
  c1 : p.c ≤ n
theorem Pl.Ok.up {p : Pl} {m n : Int} (h : p.Ok m) (l : m ≤ n) : p.Ok n := ⟨h.a0, h.b0, h.b1, h.c0, Int.le_trans h.c1 l⟩
def fldZ (z : Int) : Int := if z < 0 then 0 - 2 * z - 1 else 2 * z
def plOf (z : Int) : Pl := if fldZ z ≥ 10 ^ 18 then ⟨fldZ z, fldZ z % 1000000007, 0⟩ else ⟨0, fldZ z % 1000000007, 0⟩
theorem fldZ_nn (z : Int) : 0 ≤ fldZ z := by
  unfold fldZ
  split <;> omega
theorem plOf_ok (z : Int) : (plOf z).Ok 0 := by
  have h := fldZ_nn z
  have h0 : 0 ≤ fldZ z % 1000000007 := Int.emod_nonneg _ (by decide)
  have h1 : fldZ z % 1000000007 < 1000000007 := Int.emod_lt_of_pos _ (by decide)
  unfold plOf
  split
  · exact ⟨h, h0, h1, Int.le_refl _, Int.le_refl _⟩
  · exact ⟨Int.le_refl _, h0, h1, Int.le_refl _, Int.le_refl _⟩
/-- one draw below m -/
def tk (p : Pl) (m : Int) : Int × Pl :=
  if 0 < p.a then (p.a % m, ⟨p.a / m, p.b, p.c⟩)
  else (((p.b + 7919 * (p.c + 1) + 104729) ^ (5 : Int).toNat % 2147483647 + (p.c + 1)) * 40692 % 2147483629 % m, ⟨p.a, p.b, p.c + 1⟩)
theorem tk_lt (p : Pl) {m : Int} (h : 0 < m) : 0 ≤ (tk p m).1 ∧ (tk p m).1 < m := by
  unfold tk
  split
  · exact ⟨Int.emod_nonneg _ (by omega), Int.emod_lt_of_pos _ h⟩
  · exact ⟨Int.emod_nonneg _ (by omega), Int.emod_lt_of_pos _ h⟩
theorem tk_ok {p : Pl} {n m : Int} (h : p.Ok n) (hm : 0 < m) : (tk p m).2.Ok (n + 1) := by
  obtain ⟨h1, h2, h3, h4, h5⟩ := h
  unfold tk
  split
  · exact ⟨Int.ediv_nonneg h1 (by omega), h2, h3, h4, by show p.c ≤ n + 1; omega⟩
  · exact ⟨h1, h2, h3, by show 0 ≤ p.c + 1; omega, by show p.c + 1 ≤ n + 1; omega⟩
end DL

/-! DP: texts by their signs (own work). -/
namespace DL
open PySem L2 PySem.W
/-- the text of these signs -/
def tx (l : List Nat) : Str := ⟨l.toArray⟩
theorem tx_cps (l : List Nat) : (tx l).cps.toList = l := rfl
theorem tx_len (l : List Nat) : (tx l).length = l.length := by rw [str_len, tx_cps]
theorem tx_app (l m : List Nat) : tx l ++ tx m = tx (l ++ m) := by
  refine str_ext ?_
  show ((tx l).cps ++ (tx m).cps).toList = l ++ m
  rw [Array.toList_append]
  rfl
theorem tx_cut (l : List Nat) (lo hi : Option Int) : cutS (tx l) lo hi = tx (cutD l lo hi) := by
  unfold cutS cutD
  rw [tx_cps, tx_len]
  rfl
theorem tx_one (c : Nat) : (⟨#[c]⟩ : Str) = tx [c] := rfl
theorem letters_tx : ("abcdefghijklmnopqrstuvwxyz" : Str) = tx letL := str_ext rfl
theorem digits_tx : ("0123456789" : Str) = tx digL := str_ext rfl
theorem let_len : letL.length = 26 := by decide
theorem sig_len : (letL ++ digL).length = 36 := by decide
theorem isNm_tx (l : List Nat) : isNm (tx l) = nmL l := by unfold isNm; rw [tx_cps]
theorem nmL_of {c : Nat} {r : List Nat} (h : c ∈ letL) (h2 : ∀ x ∈ c :: r, x ∈ letL ++ digL) (hl : (c :: r).length ≤ 8) : nmL (c :: r) = true := by
  show (decide ((c :: r).length ≤ 8) && (decide (c ∈ letL) && (c :: r).all fun x => decide (x ∈ letL) || decide (x ∈ digL))) = true
  rw [decide_eq_true hl, decide_eq_true h, Bool.true_and, Bool.true_and, List.all_eq_true]
  intro x hx
  rw [Bool.or_eq_true, decide_eq_true_eq, decide_eq_true_eq]
  exact List.mem_append.mp (h2 x hx)
/-- a name, its signs -/
theorem nm_of {l : List Nat} (h0 : ∃ c, l.head? = some c ∧ c ∈ letL) (h2 : ∀ x ∈ l, x ∈ letL ++ digL) (hl : l.length ≤ 8) : isNm (tx l) = true := by
  rw [isNm_tx]
  obtain ⟨c, hc, hm⟩ := h0
  cases l with
  | nil => cases hc
  | cons d r =>
    cases hc
    exact nmL_of hm h2 hl
/-- a drawn sign -/
theorem sgn_at {l : List Nat} {i : Int} (h0 : 0 ≤ i) (h1 : i < l.length) : ∃ c, atI l i = some c ∧ c ∈ l := by
  have hlt : i.toNat < l.length := by omega
  exact ⟨l[i.toNat], atZ h0 (List.getElem?_eq_getElem hlt), List.getElem_mem hlt⟩
section
variable {K : PySem.W.Frag} {ro : Ro} {ka k1 k2 k3 : Cells} {te tf : TE} {tl th : TO}
theorem ev_ixT {l : List Nat} {i : Int} {c : Nat} (h : EvD K te ro ka (.val (.str (tx l))) k1) (h2 : EvD K tf ro k1 (.val (.int i)) k2) (hs : l.length ≤ 1000) (hc : atI l i = some c) : EvD K (tOp (rIx K) te tf) ro ka (.val (.str (tx [c]))) k2 := ev_ixS h h2 (by rw [tx_len]; omega) (by rw [tx_cps]; exact hc)
theorem ev_addT {l m : List Nat} (h : EvD K te ro ka (.val (.str (tx l))) k1) (h2 : EvD K tf ro k1 (.val (.str (tx m))) k2) (hz : l.length + m.length ≤ 1000) : EvD K (tOp (rAddU K) te tf) ro ka (.val (.str (tx (l ++ m)))) k2 := (ev_addS h h2 (by rw [tx_len, tx_len]; omega)).to (by rw [tx_app])
theorem ev_slX {lo hi : Option Int} {l : List Nat} (ha : EvD K te ro ka (.val (.str (tx l))) k1) (h1 : EvO K tl ro k1 lo k2) (h2 : EvO K th ro k2 hi k3) (hs : l.length ≤ 1000) : EvD K (tSl (rSlU K) te tl th) ro ka (.val (.str (tx (cutD l lo hi)))) k3 := (ev_slS ha h1 h2 (by rw [tx_len]; omega)).to (by rw [tx_cut])
theorem ev_lenX {l : List Nat} (h : EvD K te ro ka (.val (.str (tx l))) k1) (hs : l.length ≤ 1000) : EvD K (tCB (rLenU K) (tCons te tNil)) ro ka (.val (.int l.length)) k1 := (ev_lenS h (by rw [tx_len]; omega)).to (by rw [tx_len])
end
end DL

/-! DR: expressions that raise, by data (own work). -/
namespace DL
open PySem L2 PySem.W
/-- te ends with an exception of C1, with the fields gs -/
def EvX (K : PySem.W.Frag) (te : TE) (ro : Ro) (ka : Cells) (E : XK) (C1 : Addr) (gs : List (Str × D)) (k2 : Cells) : Prop := ∀ B F0 ta sg H (Q : VK), En K B F0 ro ka ta sg H → (∀ dx H', En K B F0 ro (k2 ++ [(dx, .xd gs)]) ta sg H' → E (.ref C1) (some dx) H') → te sg H Q
section
variable {K : PySem.W.Frag} {B F0 : Hp} {ro : Ro} {ka k1 k2 k3 kr : Cells} {ta : List (V × W)} {sg : L2.St} {H : Hp} {te tf : TE} {tr : TA} {x y : W} {C C1 : Addr} {fs gs : List (Str × D)} {b : Bool} {E : XK} {De : Ends}
theorem evx_own2 {Cc : Ct} {E' : XK} (ha : EvD K te ro ka x k1) (hb : EvD K tf ro k1 y (k2 ++ kr)) (l : Io (k2 ++ kr) x C fs b) (hC : Cc [x, y] k2 (Xt C1 gs k3)) (hE : E' = E) : EvX K (tOp (rOwn2 C (spC K Cc) E') te tf) ro ka E C1 gs (k3 ++ kr) := fun B F0 ta sg H Q e q => by
  subst hE
  refine ha B F0 ta sg H _ e fun u H1 e1 => hb B F0 _ sg H1 _ e1 fun v H2 e2 => ?_
  obtain ⟨a, dx, xs, rfl, h⟩ := l.en e2 (List.mem_cons_of_mem _ List.mem_cons_self)
  refine ⟨a, dx, xs, rfl, h, sp_exc (vs := [.ref a, v]) (ws := [x, y]) (ta := ta) (kr := kr) (e2.held fun p hp => ?_) rfl hC (fun _ _ z => z) fun dx H' e3 => q dx H' (e3.perm ?_)⟩
  · rcases List.mem_append.mp hp with hp | hp
    · simp at hp
      rcases hp with rfl | rfl
      · exact List.mem_cons_of_mem _ List.mem_cons_self
      · exact List.mem_cons_self
    · exact List.mem_cons_of_mem _ (List.mem_cons_of_mem _ hp)
  · rw [List.append_assoc, List.append_assoc]
    exact List.Perm.append_left _ List.perm_append_comm
theorem evx_ownT {Cc : Ct} {op : Operator} {E' : XK} (ha : EvD K te ro ka x k1) (hb : EvD K tf ro k1 y (k2 ++ kr)) (l : Io (k2 ++ kr) x C fs b) (t : TyWf K C op (k2 ++ kr) y) (hC : Cc [x, y] k2 (Xt C1 gs k3)) (hE : E' = E) : EvX K (tOp (rOwnT2 K C op (spC K Cc) E') te tf) ro ka E C1 gs (k3 ++ kr) := fun B F0 ta sg H Q e q => by
  subst hE
  refine ha B F0 ta sg H _ e fun u H1 e1 => hb B F0 _ sg H1 _ e1 fun v H2 e2 => ?_
  obtain ⟨a, dx, xs, rfl, h⟩ := l.en e2 (List.mem_cons_of_mem _ List.mem_cons_self)
  obtain ⟨T, ty, bt⟩ := t.at_ _ _ _ _ _ _ _ e2 List.mem_cons_self
  refine ⟨a, dx, xs, T, rfl, h, ty, bt, sp_exc (vs := [.ref a, v]) (ws := [x, y]) (ta := ta) (kr := kr) (e2.held fun p hp => ?_) rfl hC (fun _ _ z => z) fun dx H' e3 => q dx H' (e3.perm ?_)⟩
  · rcases List.mem_append.mp hp with hp | hp
    · simp at hp
      rcases hp with rfl | rfl
      · exact List.mem_cons_of_mem _ List.mem_cons_self
      · exact List.mem_cons_self
    · exact List.mem_cons_of_mem _ (List.mem_cons_of_mem _ hp)
  · rw [List.append_assoc, List.append_assoc]
    exact List.Perm.append_left _ List.perm_append_comm
theorem evx_call {Cc : Ct} {ws : List W} {E' : XK} (ha : EvA K tr ro ka ws (k2 ++ kr)) (hC : Cc ws k2 (Xt C1 gs k3)) (hE : E' = E) : EvX K (tCall (spC K Cc) [] E' tr) ro ka E C1 gs (k3 ++ kr) := fun B F0 ta sg H Q e q => by
  subst hE
  refine ha B F0 ta sg H _ e fun vs H1 hl e1 => ?_
  rw [List.append_nil]
  refine sp_exc e1 hl hC (fun _ _ z => z) fun dx H' e3 => q dx H' (e3.perm ?_)
  rw [List.append_assoc, List.append_assoc]
  exact List.Perm.append_left _ List.perm_append_comm
theorem evx_prop {Cc : Ct} {E' : XK} (h : EvX K te ro ka E C1 gs k2) : EvX K (tProp C (spC K Cc) [] E' te) ro ka E C1 gs k2 := fun B F0 ta sg H Q e q => h B F0 ta sg H _ e q
theorem evx_lst (h : EvX K te ro ka E C1 gs k2) : EvX K (tLst (tCons te tr)) ro ka E C1 gs k2 := fun B F0 ta sg H Q e q => h B F0 ta sg H _ e q
/-- return of an expression that raises, caught -/
theorem g_retX {c : Value} {i : Nat} {ts : Addr → Value → Option Addr → TS} {Wout : WX} {De' : Ends} (h : EvX K te ro ka (XW ro.length (wAs K c i ts Wout De)) C1 gs k2) (hx : exmOne K (.ref C1) c = some true)
    (hs : ∀ a dx, Gp K B F0 ta (ts a (.ref C1) (some dx) { nx := fun σ' H' => De.nx (σ'.set i none) H', rt := De.rt, bk := fun σ' H' => De.bk (σ'.set i none) H', ct := fun σ' H' => De.ct (σ'.set i none) H' }) ((List.replicate ro.length none).set i (some (.val (.adr a)))) (k2 ++ [(dx, .xd gs)])) : Gp K B F0 ta (tRet te De') ro ka := fun sg H e =>
  h B F0 ta sg H _ e fun dx H' e' => xw_as hx (fun a => hs a dx) e'
end
end DL
namespace DL
open PySem L2 PySem.W
theorem cut_to' {β : Type} {xs : List β} {i : Int} (h0 : 0 ≤ i) : cutD xs none (some i) = xs.take i.toNat := by
  by_cases h1 : i ≤ xs.length
  · exact cut_to h0 h1
  · unfold cutD HT.sIx
    dsimp only
    rw [if_neg (by omega), List.drop_zero, Nat.sub_zero, Nat.min_eq_right (by omega), List.take_of_length_le (Nat.le_refl _), List.take_of_length_le (by omega)]
theorem stD_take (ss : List Str) (n : Nat) : (stD ss).take n = stD (ss.take n) := by unfold stD; rw [List.map_take]
theorem stD_drop (ss : List Str) (n : Nat) : (stD ss).drop n = stD (ss.drop n) := by unfold stD; rw [List.map_drop]
theorem stD_app (xs ys : List Str) : stD xs ++ stD ys = stD (xs ++ ys) := by unfold stD; rw [List.map_append]
theorem stD_rep (ss : List Str) (n : Nat) : (List.replicate n (stD ss)).flatten = stD (List.replicate n ss).flatten := by
  unfold stD
  rw [List.map_flatten, List.map_replicate]
theorem stD_get {ss : List Str} {i : Nat} {s : Str} (h : ss[i]? = some s) : (stD ss)[i]? = some (.str s) := by unfold stD; rw [List.getElem?_map, h]; rfl
theorem mem_rep {β : Type} {ss : List β} {n : Nat} {s : β} (h : s ∈ (List.replicate n ss).flatten) : s ∈ ss := by
  obtain ⟨l, h1, h2⟩ := List.mem_flatten.mp h
  rw [(List.mem_replicate.mp h1).2] at h2
  exact h2
end DL
namespace DL
open PySem L2 PySem.W
/-- the end of a loop within a loop -/
theorem g_jpH {K : PySem.W.Frag} {B F0 : Hp} {ta ta' : List (V × W)} {Inv : Ro → Cells → Prop} {ro : Ro} {ka : Cells} (h : ∀ p ∈ ta, p ∈ ta') (i : Inv ro ka) : Gp K B F0 ta' (Jp K B F0 ta Inv) ro ka := fun sg H e => ⟨ro, ka, i, e.held h⟩
end DL
namespace DL
open PySem L2 PySem.W
def inD (ns : List Int) : List D := ns.map .int
/-- w is the script -/
def Scr (K : PySem.W.Frag) (w : W) (ns : List Int) : Prop := w = .val (.lst (inD ns)) ∨ ∃ p, w = .val (.adr p) ∧ ∀ H, SqL K H p (ns.map V.int)
theorem law_sp {K : PySem.W.Frag} {Cc : Ct} {H : Hp} {a : Addr} {ns : List Int} (hC : ∀ z, Scr K z ns → Cc [z] [] (Rt (.bl true) [])) (hS : SqL K H a (ns.map V.int)) : spC K Cc [.ref a] H (fun v _ => v = .bl true) fun _ _ _ => False := by
  have rt : ∀ {B F0 : Hp}, RtOk K B F0 (Rt (.bl true) []) (fun v _ => v = .bl true) := fun {B F0} d ka v H' o e => by
    obtain ⟨h, _⟩ := o
    cases h
    exact e.tm_bl List.mem_cons_self
  have rx : ∀ {B F0 : Hp}, RxOk K B F0 (Rt (.bl true) []) (fun _ _ _ => False) := fun {B F0} => ⟨fun C fs ka dx H' o _ => (by cases o.1), fun C ka H' o _ => (by cases o.1)⟩
  have nob : Sub (fun _ => none) H := fun _ _ h => by cases h
  rcases id hS with h | h
  · refine ⟨fun _ => none, gH H, [.val (.lst (inD ns))], [], _, hC _ (.inl rfl), rfl, ⟨gH H, Gr.refl _ _, gH_nz, gH_exz, nob, List.nodup_nil, fun p hp => (by cases hp), rfl, fun i w e => by simp at e, fun p hp => ?_⟩, rt, rx⟩
    have hp2 : p = (V.ref a, W.val (.lst (inD ns))) := by simpa using hp
    subst hp2
    refine ⟨a, ns.map V.int, rfl, .inl ?_, rpl_ints ns⟩
    unfold gH
    rcases h with h | ⟨o, h⟩
    · rw [h]
    · rw [h]
      rfl
  · refine ⟨fun _ => none, fun _ => none, [.val (.adr a)], [], _, hC _ (.inr ⟨a, rfl, fun _ => .inr h⟩), rfl, ⟨fun _ => none, Gr.refl _ _, fun _ _ h => (by cases h), fun _ _ h => (by cases h), nob, List.nodup_nil, fun p hp => (by cases hp), rfl, fun i w e => by simp at e, fun p hp => ?_⟩, rt, rx⟩
    have hp2 : p = (V.ref a, W.val (.adr a)) := by simpa using hp
    subst hp2
    rfl
/-- what the head must tell of a law's def: its contract, kept by every list of numbers -/
def LawIn (l : PySem.W.OpenLaw) (k : Nat) (x : Str) (w : World) (mg : Str → Option Value) (f : Addr) (h : Heap) : Prop :=
  ∃ (K : PySem.W.Frag) (Cc : Ct) (fd : FuncData), K.In h ∧ (∀ z ns, Scr K z ns → Cc [z] [] (Rt (.bl true) [])) ∧ (∀ (s : Shared) (u : Value), BindsTo s fd ⟨[u], []⟩ [(x, u)]) ∧ ∀ base : Heap, FnOk l.prog w K mg base (L2.CX l.prog w) k f fd [x] (spC K Cc)
abbrev LawWalk (l : PySem.W.OpenLaw) (q : Program) (loose : List Str) (XP : (Str → Option Value) → Heap → Prop) (YP : World → Heap → Prop) (d : DefRec) : Prop := PySem.W.WalkO q loose XP YP l.row.toRowW d [] (fun g us => PySem.call g us)
/-- the law's walk, from what the head tells -/
theorem walk_D {l : PySem.W.OpenLaw} {n k : Nat} {q : Program} {loose : List Str} {XP : (Str → Option Value) → Heap → Prop} {YP : World → Heap → Prop} {d : DefRec} {x : Str} (most : l.most = some n) (fits : n ≤ sizeLine)
    (plain : d.params.defaults = []) (room : Room k callerA) (told : ∀ w mg f h, YP w h → h.Ns mainGlobals mg → mg d.name = some (.ref f) → LawIn l k x w mg f h) : LawWalk l q loose XP YP d :=
  Att.attach_call most plain fun w _ _ mg _ f _ _ _ _ arg vs ns G known _ _ _ at_ obj nums short grown => by
    have ⟨K, Cc, fd, inH, keeps, binds, ok⟩ := told w mg f _ known G.T.g at_
    exact law_call inH G.T.g G.T.b G.T.builtins G.T.nolimit grown obj nums (Nat.le_trans short fits) room (fun base _ _ => ok base) binds (fun H _ S => law_sp (fun z hz => keeps z ns hz) S) fun H e s' z => by
      obtain ⟨_, _, _, _, _, _, _, _, _, _, _, _, bad⟩ := z
      exact bad
end DL

/-! DU: tuple * number (own work). -/
namespace DL
open PySem PySem.Spec PyProof.Rows L2
/-- a tuple taken once is the tuple itself -/
theorem once_same {l : Addr} {us : Array Value} {tok : Tok} : Meets (Builtin.«tuple.__mul__» ⟨[.ref l, .int 1 tok], []⟩) (fun _ R st => IsTup st.heap l us ∧ R (.ok (.ret (.ref l))) st) := Meets.of_wp fun _ _ _ _ st both => by
  have ⟨⟨⟨kind, dct, stuff, slots⟩, there, k, n, d⟩, over⟩ := both
  cases k
  cases d
  have one : (us.isEmpty || (1 : Int) == 1) = true := Bool.or_eq_true_iff.mpr (.inr rfl)
  have index := AutoSeq1.idx_int
  cases st
  wp_walk using wpAny_loadPart' there
  exact ⟨_, rfl, over⟩
def rOnceT (K : PySem.W.Frag) : R2 := fun x y H Q => ∃ l xs, x = .ref l ∧ y = .int 1 ∧ SqT K H l xs ∧ Q (.ref l) H
theorem op_onceT {X : Cx} : OpR X (binaryOp .Mult) (rOnceT X.K) := fun pins st sg H x y v u Q I rx ry want => by
  have ⟨l, xs, ex, ey, t, q⟩ := want
  subst ex ey
  cases rx
  have ⟨tok, e⟩ := ry
  subst e
  have ⟨us, _, tup, _⟩ := I.tuple t
  have ⟨⟨kind, dct, stuff, slots⟩, there, k, n, d⟩ := tup
  cases k
  cases d
  have here : st.TypeIs (.ref l) "tuple" := ⟨_, there, rfl⟩
  have done : wpAny (model X.prog X.w) X.A (call (.builtin "tuple.__mul__") [.ref l, .int 1 tok]) (EP X pins sg Q) X.xe st := call_meets F.slot_tuple_mul here F.entry_tuple_mul (F.args_tuple_mul_2 _ _) once_same ⟨tup, .ref l, H, I, rfl, q⟩
  have declined : wpAny (model X.prog X.w) X.A (call (.builtin "int.__rmul__") [.int 1 tok, .ref l]) (fun r s1 => r = .notImplemented ∧ s1.TypeIs (.ref l) "tuple" ∧ wpAny (model X.prog X.w) X.A (call (.builtin "tuple.__mul__") [.ref l, .int 1 tok]) (EP X pins sg Q) X.xe s1) X.xe st :=
    call_meets F.slot_int_rmul (typeIs_int st 1 tok) F.entry_int_rmul (F.args_int_rmul_2 _ _) (int_rmul_tuple 1 tok l us.toArray n dct slots) ⟨there, rfl, here, done⟩
  exact wpAny_binaryOp_repeat_ref (U := "int") (by decide) here (fun s1 => typeIs_int s1 1 tok) noFill_tuple_mul F.fills_int_mul F.slot_int_rmul repeat_tuple F.slot_int_index.lookup declined
/-- numbers, list * number, tuple * number -/
def rMulV (K : PySem.W.Frag) : R2 := fun x y H Q => rMulU x y H Q ∨ (fun x y H Q => rRepT K x y H Q ∨ rOnceT K x y H Q) x y H Q
theorem op_mulV {X : Cx} : OpR X (binaryOp .Mult) (rMulV X.K) := op_mulU.or (op_repT.or op_onceT)
section
open PySem.W
variable {K : PySem.W.Frag} {ro : Ro} {ka k1 k2 : Cells} {te tf : TE}
theorem rv_repT {ds : List D} {i : Int} (hne : ds ≠ []) (h1 : 1 ≤ i) (h2 : i ≤ 1000) (hl : ds.length ≤ 1000) : RvD K (rMulV K) ka (.val (.tup ds)) (.val (.int i)) (.val (.tup (List.replicate i.toNat ds).flatten)) := by
  by_cases h : i = 1
  · subst h
    have e : (List.replicate (1 : Int).toNat ds).flatten = ds := by simp
    rw [e]
    refine rvd_r (rvd_r fun B F0 ro ta sg H u v Q e hu hv q => ?_)
    obtain ⟨F, g, ef⟩ := id e
    obtain ⟨a, xs, rfl, s1, r1⟩ := Lk.vt.get ef (ef.tm _ hu)
    exact ⟨a, xs, rfl, e.tm_int hv, s1, q _ _ ⟨F, g, ef.push (ef.tm _ hu)⟩⟩
  · refine rvd_r (rvd_l fun B F0 ro ta sg H u v Q e hu hv q => ?_)
    obtain ⟨F, g, ef⟩ := id e
    obtain ⟨a, xs, rfl, s1, r1⟩ := Lk.vt.get ef (ef.tm _ hu)
    refine ⟨a, i, xs, rfl, e.tm_int hv, s1, fun z => hne (List.eq_nil_of_length_eq_zero (by rw [← rpl_len r1, z]; rfl)), by omega, h2, by rw [rpl_len r1]; exact hl, fun p hp => q _ _ ?_⟩
    obtain ⟨e4, g4⟩ := ef.lay (o := .tup (List.replicate i.toNat xs).flatten) hp rfl
    exact ⟨_, g.trans g4, e4.push ⟨p, _, rfl, .inl (.inl upd_same), RpL.mono g4.sub.exz ef.nz _ _ (rpl_repl r1 _)⟩⟩
theorem ev_repT {ds : List D} {i : Int} (h : EvD K te ro ka (.val (.tup ds)) k1) (h' : EvD K tf ro k1 (.val (.int i)) k2) (hne : ds ≠ []) (h1 : 1 ≤ i) (h2 : i ≤ 1000) (hl : ds.length ≤ 1000) : EvD K (tOp (rMulV K) te tf) ro ka (.val (.tup (List.replicate i.toNat ds).flatten)) k2 := ev_op h h' (rv_repT hne h1 h2 hl)
/-- name op= number -/
theorem g_augI {B F0 : Hp} {ta : List (V × W)} {De : Ends} {i : Nat} {x y z : Int} {ti : TIp} (hi : ro[i]? = some (some (.val (.int x)))) (h : EvD K te ro ka (.val (.int y)) k1) (ht : ∀ H Q, Q (.int z) H → ti (.int x) (.int y) H Q) (k : Gp K B F0 ta De.nx (ro.set i (some (.val (.int z)))) k1) : Gp K B F0 ta (tAug i te ti De) ro ka := fun sg H e => by
  obtain ⟨F, g, ef⟩ := id e
  obtain ⟨v, h1, h2⟩ := ef.sl i _ hi
  have hv : v = .int x := h2
  subst hv
  refine ⟨_, h1, h B F0 ta sg H _ e fun w H1 e1 => ?_⟩
  have hw := e1.tm_int (v := w) (i := y) List.mem_cons_self
  subst hw
  exact ht _ _ (k _ _ ((e1.pop.push_imm (v := .int z) (w := .val (.int z)) fun _ => rfl).set i))
end
end DL

/-! DV: dicts, sorted texts, data compared by < (own work). -/
namespace DL
open PySem L2 PySem.W

/-! ### tables -/
section
variable {κ α β : Type} [DecidableEq κ]
def getT (kvs : List (κ × α)) (k : κ) : Option α := (kvs.find? fun kv => decide (kv.1 = k)).map (·.2)
def hasT (kvs : List (κ × α)) (k : κ) : Bool := kvs.any fun p => decide (p.1 = k)
def newAt (k : κ) (v : α) (p : κ × α) : κ × α := if p.1 = k then (p.1, v) else p
/-- a key that stands keeps its place, a new one comes last -/
def putT (kvs : List (κ × α)) (k : κ) (v : α) : List (κ × α) := if hasT kvs k = true then kvs.map (newAt k v) else kvs ++ [(k, v)]
def dropT (kvs : List (κ × α)) (k : κ) : List (κ × α) := kvs.filter fun kv => decide (kv.1 ≠ k)
/-- tables of the same keys -/
def PT (R : α → β → Prop) : List (κ × α) → List (κ × β) → Prop
  | [], xs => xs = []
  | (k, d) :: ds, xs => ∃ x ys, xs = (k, x) :: ys ∧ R d x ∧ PT R ds ys
variable {R : α → β → Prop}
theorem PT.any : ∀ {ds : List (κ × α)} {xs : List (κ × β)}, PT R ds xs → ∀ k, hasT xs k = hasT ds k
  | [], xs, h, k => by rw [show xs = [] from h]; rfl
  | (k', d) :: ds, xs, h, k => by
    obtain ⟨x, ys, rfl, _, h2⟩ := h
    unfold hasT
    rw [List.any_cons, List.any_cons]
    exact congrArg (fun z => decide (k' = k) || z) (PT.any h2 k)
theorem PT.map (k : κ) {d : α} {x : β} (r : R d x) : ∀ {ds : List (κ × α)} {xs : List (κ × β)}, PT R ds xs → PT R (ds.map (newAt k d)) (xs.map (newAt k x))
  | [], xs, h => by rw [show xs = [] from h]; rfl
  | (k', d') :: ds, xs, h => by
    obtain ⟨x', ys, rfl, h1, h2⟩ := h
    have rest := PT.map k r h2
    by_cases e : k' = k
    · have e1 : newAt k d (k', d') = (k', d) := if_pos e
      have e2 : newAt k x (k', x') = (k', x) := if_pos e
      rw [List.map_cons, e1, List.map_cons, e2]
      exact ⟨x, _, rfl, r, rest⟩
    · have e1 : newAt k d (k', d') = (k', d') := if_neg e
      have e2 : newAt k x (k', x') = (k', x') := if_neg e
      rw [List.map_cons, e1, List.map_cons, e2]
      exact ⟨x', _, rfl, h1, rest⟩
theorem PT.snoc {k : κ} {d : α} {x : β} (r : R d x) : ∀ {ds : List (κ × α)} {xs : List (κ × β)}, PT R ds xs → PT R (ds ++ [(k, d)]) (xs ++ [(k, x)])
  | [], xs, h => by rw [show xs = [] from h]; exact ⟨x, [], rfl, r, rfl⟩
  | (k', d') :: ds, xs, h => by
    obtain ⟨x', ys, rfl, h1, h2⟩ := h
    exact ⟨x', _, rfl, h1, PT.snoc r h2⟩
theorem PT.put {ds : List (κ × α)} {xs : List (κ × β)} (h : PT R ds xs) (k : κ) {d : α} {x : β} (r : R d x) : PT R (putT ds k d) (putT xs k x) := by
  unfold putT
  rw [h.any k]
  split
  · exact h.map k r
  · exact h.snoc r
theorem PT.drop (k : κ) : ∀ {ds : List (κ × α)} {xs : List (κ × β)}, PT R ds xs → PT R (dropT ds k) (dropT xs k)
  | [], xs, h => by rw [show xs = [] from h]; rfl
  | (k', d') :: ds, xs, h => by
    obtain ⟨x', ys, rfl, h1, h2⟩ := h
    unfold dropT
    rw [List.filter_cons, List.filter_cons]
    by_cases e : k' = k
    · rw [if_neg (by simpa using e), if_neg (by simpa using e)]; exact PT.drop k h2
    · rw [if_pos (by simpa using e), if_pos (by simpa using e)]; exact ⟨x', _, rfl, h1, PT.drop k h2⟩
theorem PT.get (k : κ) : ∀ {ds : List (κ × α)} {xs : List (κ × β)}, PT R ds xs → (getT ds k = none → getT xs k = none) ∧ ∀ d, getT ds k = some d → ∃ x, getT xs k = some x ∧ R d x
  | [], xs, h => by rw [show xs = [] from h]; exact ⟨fun _ => rfl, fun d q => by cases q⟩
  | (k', d') :: ds, xs, h => by
    obtain ⟨x', ys, rfl, h1, h2⟩ := h
    by_cases e : k' = k
    · have e1 : getT ((k', d') :: ds) k = some d' := by simp [getT, List.find?_cons, e]
      have e2 : getT ((k', x') :: ys) k = some x' := by simp [getT, List.find?_cons, e]
      rw [e1, e2]
      refine ⟨fun q => (by cases q), fun d q => ?_⟩
      cases q
      exact ⟨x', rfl, h1⟩
    · have e1 : getT ((k', d') :: ds) k = getT ds k := by simp [getT, List.find?_cons, e]
      have e2 : getT ((k', x') :: ys) k = getT ys k := by simp [getT, List.find?_cons, e]
      rw [e1, e2]
      exact PT.get k h2
theorem PT.len : ∀ {ds : List (κ × α)} {xs : List (κ × β)}, PT R ds xs → xs.length = ds.length
  | [], xs, h => by rw [show xs = [] from h]; rfl
  | (k', d') :: ds, xs, h => by
    obtain ⟨x', ys, rfl, h1, h2⟩ := h
    rw [List.length_cons, List.length_cons, PT.len h2]
theorem PT.at : ∀ {ds : List (κ × α)} {xs : List (κ × β)}, PT R ds xs → ∀ {i : Nat} {p : κ × α}, ds[i]? = some p → ∃ x, xs[i]? = some (p.1, x) ∧ R p.2 x
  | [], xs, h, i, p, e => by simp at e
  | (k', d') :: ds, xs, h, 0, p, e => by
    obtain ⟨x', ys, rfl, h1, h2⟩ := h
    cases e
    exact ⟨x', rfl, h1⟩
  | (k', d') :: ds, xs, h, i + 1, p, e => by
    obtain ⟨x', ys, rfl, h1, h2⟩ := h
    exact PT.at h2 (i := i) (by simpa using e)
theorem putT_len (kvs : List (κ × α)) (k : κ) (v : α) : (putT kvs k v).length ≤ kvs.length + 1 := by
  unfold putT
  split
  · rw [List.length_map]; omega
  · rw [List.length_append, List.length_cons, List.length_nil]; omega
end
theorem rpk_pt {K : PySem.W.Frag} {F : Hp} : ∀ {ds : List (Key × D)} {xs : List (Key × V)}, RpK K F ds xs ↔ PT (Rp K F) ds xs
  | [], xs => Iff.rfl
  | (k, d) :: ds, xs => ⟨fun ⟨x, ys, e, h1, h2⟩ => ⟨x, ys, e, h1, rpk_pt.mp h2⟩, fun ⟨x, ys, e, h1, h2⟩ => ⟨x, ys, e, h1, rpk_pt.mpr h2⟩⟩
theorem rpt_pt {K : PySem.W.Frag} {F : Hp} : ∀ {ds : List (List Key × D)} {xs : List (List Key × V)}, RpT K F ds xs ↔ PT (Rp K F) ds xs
  | [], xs => Iff.rfl
  | (k, d) :: ds, xs => ⟨fun ⟨x, ys, e, h1, h2⟩ => ⟨x, ys, e, h1, rpt_pt.mp h2⟩, fun ⟨x, ys, e, h1, h2⟩ => ⟨x, ys, e, h1, rpt_pt.mpr h2⟩⟩
/-- a key as data -/
def kD : Key → D
  | .inl i => .int i
  | .inr s => .str s

section
variable {K : PySem.W.Frag} {B F F0 : Hp} {ro : Ro} {ka k1 k2 k3 kr : Cells} {ta : List (V × W)} {sg : L2.St} {H H' : Hp} {te tf tg tk tv : TE} {tr : TA} {tt tu : TT} {w x y z : W} {n m : Nd} {C dx a : Addr} {b : Bool} {P : L2.St → Hp → Prop} {De : Ends} {t u : TS} {E : XK}
theorem En.tm_key (e : En K B F0 ro ka ta sg H) {v : V} {k : Key} (h : (v, W.val (kD k)) ∈ ta) : v = kV k := by
  cases k with
  | inl i => exact e.tm_int h
  | inr s => exact e.tm_str h
/-- {k: v for x in .. if ..}: what is told of the dict -/
theorem evr_dc {wi : TI} {ws : List W} {C : Cells → Prop} {j : Nat} {vs : List Nat} (h : EvI K wi ro ka ws C k1) (hj : j ∈ vs) (hn : ws.length ≤ 1000000) (Inv : Nat → List (Key × D) → Cells → Prop) (h0 : Inv 0 [] k1) (hC : ∀ i acc k, Inv i acc k → C k ∧ ∀ x, C (k ++ [x]))
    (hs : ∀ i w acc k, ws[i]? = some w → Inv i acc k → (∃ k2, EvT K tt ((wipeR ro vs).set j (some w)) k false k2 ∧ Inv (i + 1) acc k2) ∨ ∃ k2 k3 k4 c d, EvT K tt ((wipeR ro vs).set j (some w)) k true k2 ∧ EvD K tk ((wipeR ro vs).set j (some w)) k2 (.val (kD c)) k3 ∧ EvD K tv ((wipeR ro vs).set j (some w)) k3 (.val d) k4 ∧ Inv (i + 1) (putT acc c d) k4)
    : EvNR K (tDc wi (gName j) tt tk tv vs) ro ka (fun n k => ∃ acc, n = .dic acc ∧ Inv ws.length acc k) := fun B F0 ta sg H Q e q =>
  h B F0 ta sg H _ e fun J ta' H1 hta e1 hgo hst => fun Dl hD => by
    let P : Nat → Hp → Prop := fun i H => ∃ acc k, Inv i acc k ∧ acc.length ≤ i ∧ En K B F0 ro (k ++ [(Dl, .dic acc)]) ta' sg H
    have p0 : P 0 (upd H1 Dl (.dK [])) := by
      obtain ⟨F, g, e1⟩ := e1
      exact ⟨[], k1, h0, Nat.le_refl _, F, g, e1.cell (o := .dK []) hD (n := .dic []) ⟨[], upd_same, rfl⟩⟩
    refine ⟨fun i m H => m = ws.length - i ∧ i ≤ ws.length ∧ P i H, ⟨ws.length, by simp, Nat.zero_le _, p0⟩, ?_⟩
    rintro i m H2 ⟨rfl, hi, acc, k, inv, hlen, e2⟩
    by_cases hlt : i < ws.length
    · have hw := List.getElem?_eq_getElem hlt
      obtain ⟨g1, g2⟩ := hgo i ws[i] ro (k ++ [(Dl, .dic acc)]) ta' sg H2 hw ((hC i acc k inv).2 _) (fun p hp => hp) e2
      refine .inr ⟨g1, P (i + 1), fun H' p => ⟨ws.length - (i + 1), by omega, rfl, hlt, p⟩, fun x H3 y => ?_⟩
      have e3 := g2 x H3 y
      refine ⟨wipe_set sg vs hj x, ?_⟩
      have out : ∀ {k : Cells} {ta2 : List (V × W)} {H : Hp}, (∃ F, Gr B F0 F ∧ EnF K B F ((wipeR ro vs).set j (some ws[i])) k ta2 ((wipe sg vs).set j (some x)) H ∧ ∀ (a : Nat) w, ro[a]? = some (some w) → ∃ v, sg[a]? = some (some v) ∧ WOk K B F v w) → En K B F0 ro k ta2 sg H := fun ⟨F, g, q, hs⟩ => ⟨F, g, q.frame (by obtain ⟨_, _, e0⟩ := e; exact e0.ln) hs⟩
      obtain ⟨F3, gF3, eF3⟩ := e3
      have slots : ∀ {F : Hp}, Gr B F3 F → ∀ (a : Nat) w, ro[a]? = some (some w) → ∃ v, sg[a]? = some (some v) ∧ WOk K B F v w := fun {F} g a w ha => by
        obtain ⟨v, h1, h2⟩ := eF3.sl a w ha
        exact ⟨v, h1, wok_gr eF3.nz g h2⟩
      have e4' : En K B F3 ((wipeR ro vs).set j (some ws[i])) (k ++ [(Dl, .dic acc)]) ta' ((wipe sg vs).set j (some x)) H3 :=
        ⟨F3, Gr.refl _ _, ((wipe_en (vs := vs) eF3).set (eF3.tm _ List.mem_cons_self) j).held fun p hp => List.mem_cons_of_mem _ hp⟩
      rcases hs i ws[i] acc k hw inv with ⟨k2, t1, inv2⟩ | ⟨k2, k3, k4, c, d, t1, t2, t3, inv2⟩
      · refine t1.fr [(Dl, .dic acc)] B F3 ta' _ H3 _ e4' fun H4 ⟨F4, g4, e5⟩ => ?_
        exact ⟨acc, k2, inv2, Nat.le_succ_of_le hlen, out ⟨F4, gF3.trans g4, e5, slots g4⟩⟩
      · refine t1.fr [(Dl, .dic acc)] B F3 ta' _ H3 _ e4' fun H4 e5 => ?_
        refine t2.fr [(Dl, .dic acc)] B F3 ta' _ H4 _ e5 fun u H5 e6 => ?_
        have hu := e6.tm_key (v := u) (k := c) List.mem_cons_self
        refine t3.fr [(Dl, .dic acc)] B F3 _ _ H5 _ e6 fun v H6 ⟨F5, g5, e7⟩ => ?_
        have hx : (k4 ++ [(Dl, Nd.dic acc)])[k4.length]? = some (Dl, Nd.dic acc) := by simp
        obtain ⟨xs, h1, h2⟩ := (e7.ce _ (List.mem_of_getElem? hx)).2.2
        have hv := e7.tm _ List.mem_cons_self
        have e8 := e7.write (o := .dK (putK xs c v)) (n' := .dic (putT acc c d)) hx ⟨_, upd_same, rpk_pt.mpr ((rpk_pt.mp h2).put c hv)⟩
        have hset : (k4 ++ [(Dl, Nd.dic acc)]).set k4.length (Dl, Nd.dic (putT acc c d)) = k4 ++ [(Dl, Nd.dic (putT acc c d))] := by
          rw [List.set_append_right _ _ (Nat.le_refl _)]
          simp
        rw [hset] at e8
        refine ⟨xs, c, hu, h1, by rw [(rpk_pt.mp h2).len]; exact Nat.lt_of_le_of_lt (Nat.le_trans hlen (Nat.le_trans hi hn)) (by decide), putT acc c d, k4, inv2, Nat.le_trans (putT_len _ _ _) (Nat.succ_le_succ hlen), ?_⟩
        exact out ⟨F5, gF3.trans g5, e8.held fun p hp => List.mem_cons_of_mem _ (List.mem_cons_of_mem _ hp), slots g5⟩
    · have ei : i = ws.length := by omega
      subst ei
      refine .inl ⟨hst _ ro (k ++ [(Dl, .dic acc)]) ta' sg H2 (Nat.le_refl _) ((hC _ acc k inv).2 _) (fun p hp => hp) e2, ?_⟩
      exact q _ _ Dl H2 ⟨acc, rfl, inv⟩ (e2.held hta)

/-! ### a dict that is the def's own, locked while it is walked -/
theorem En.cellAt (e : En K B F0 ro ka ta sg H) {j : Nat} (hj : ka[j]? = some (a, n)) : ∃ F, Gr B F0 F ∧ EnF K B F ro ka ta sg H ∧ NdOk K F H a n := let ⟨F, g, q⟩ := e; ⟨F, g, q, (q.ce _ (List.mem_of_getElem? hj)).2.2⟩
theorem set_back {β : Type} {l : List β} {j : Nat} {x y : β} (h : l[j]? = some x) : (l.set j y).set j x = l := by
  rw [List.set_set]
  refine List.ext_getElem? fun i => ?_
  by_cases e : j = i
  · subst e
    rw [List.getElem?_set_self (List.getElem?_eq_some_iff.mp h).1, h]
  · rw [List.getElem?_set_ne e]
theorem get_set {β : Type} {l : List β} {j : Nat} {x y : β} (h : l[j]? = some x) : (l.set j y)[j]? = some y := List.getElem?_set_self (List.getElem?_eq_some_iff.mp h).1
theorem ev_lock {j : Nat} {ds : List (Key × D)} (hj : ka[j]? = some (a, .dic ds)) (hj1 : k1[j]? = some (a, .dic ds)) (h : ∀ o xs, EvD K te ro (ka.set j (a, .ldic o xs ds)) w (k1.set j (a, .ldic o xs ds))) : EvD K (tLockE te) ro ka w k1 := fun B F0 ta sg H Q e q => by
  obtain ⟨F, g, ef, xs, hx, rx⟩ := e.cellAt hj
  refine ⟨a, .dK xs, hx, trivial, fun od => ?_⟩
  refine h od xs B F0 ta sg _ _ ⟨F, g, ef.write hj ⟨upd_same, rx⟩⟩ fun v H1 e1 => ?_
  obtain ⟨F1, g1, ef1, hx1, rx1⟩ := e1.cellAt (get_set hj1)
  refine ⟨hx1, q _ _ ⟨F1, g1, ?_⟩⟩
  have := ef1.write (o := .dK xs) (n' := .dic ds) (get_set hj1) ⟨xs, upd_same, rx1⟩
  rwa [set_back hj1] at this
theorem evn_lock {j : Nat} {ds : List (Key × D)} (hj : ka[j]? = some (a, .dic ds)) (hj1 : k1[j]? = some (a, .dic ds)) (h : ∀ o xs, EvN K te ro (ka.set j (a, .ldic o xs ds)) n (k1.set j (a, .ldic o xs ds))) : EvN K (tLockE te) ro ka n k1 := fun B F0 ta sg H Q e q => by
  obtain ⟨F, g, ef, xs, hx, rx⟩ := e.cellAt hj
  refine ⟨a, .dK xs, hx, trivial, fun od => ?_⟩
  refine h od xs B F0 ta sg _ _ ⟨F, g, ef.write hj ⟨upd_same, rx⟩⟩ fun v H1 e1 => ?_
  have hl : j < (k1.set j (a, Nd.ldic od xs ds)).length := by rw [List.length_set]; exact (List.getElem?_eq_some_iff.mp hj1).1
  have hg : (k1.set j (a, Nd.ldic od xs ds) ++ [(v, n)])[j]? = some (a, Nd.ldic od xs ds) := by rw [List.getElem?_append_left hl]; exact get_set hj1
  obtain ⟨F1, g1, ef1, hx1, rx1⟩ := e1.cellAt hg
  refine ⟨hx1, q _ _ ⟨F1, g1, ?_⟩⟩
  have := ef1.write (o := .dK xs) (n' := .dic ds) hg ⟨xs, upd_same, rx1⟩
  rwa [List.set_append_left _ _ hl, set_back hj1] at this
/-- the keys of a locked dict -/
theorem ei_keys {o : Obj} {xs : List (Key × V)} {ds : List (Key × D)} (h : EvD K te ro ka (.val (.adr a)) k1) (hm : (a, Nd.ldic o xs ds) ∈ k1) : EvI K (iKeys te) ro ka (ds.map fun kv => W.val (kD kv.1)) (fun k => (a, Nd.ldic o xs ds) ∈ k) k1 := fun B F0 ta sg H R e q =>
  h B F0 ta sg H _ e fun v H1 e1 => by
    have hv := e1.tm_adr (v := v) (a := a) List.mem_cons_self
    subst hv
    obtain ⟨F, g, ef⟩ := id e1
    obtain ⟨hx, rx⟩ := (ef.ce _ hm).2.2
    refine ⟨a, o, rfl, .inl ⟨xs, hx, q _ ta H1 (fun p hp => hp) e1.pop (fun i w2 ro2 ka2 ta2 sg2 H2 hw hs _ e2 => ?_) fun i ro2 ka2 ta2 sg2 H2 hi hs _ e2 => ?_⟩⟩
    · obtain ⟨F2, g2, ef2⟩ := id e2
      obtain ⟨hx2, rx2⟩ := (ef2.ce _ hs).2.2
      rw [List.getElem?_map] at hw
      cases hd : ds[i]? with
      | none => rw [hd] at hw; cases hw
      | some p =>
        rw [hd] at hw
        cases hw
        obtain ⟨y, hy, _⟩ := (rpk_pt.mp rx2).at hd
        refine ⟨⟨hx2, (List.getElem?_eq_some_iff.mp hy).1⟩, fun x H3 ⟨e3, k, v, hk, ek⟩ => ?_⟩
        subst e3 ek
        rw [hy] at hk
        cases hk
        obtain ⟨pk, pd⟩ := p
        exact e2.push_imm fun F => by cases pk <;> rfl
    · obtain ⟨F2, g2, ef2⟩ := id e2
      obtain ⟨hx2, rx2⟩ := (ef2.ce _ hs).2.2
      refine ⟨hx2, ?_⟩
      rw [(rpk_pt.mp rx2).len]
      rwa [List.length_map] at hi

/-! ### sorted texts -/
theorem lt_cps : ∀ a b : List Nat, Spec.ltCps a b = decide (a < b)
  | [], [] => rfl
  | [], _ :: _ => rfl
  | _ :: _, [] => rfl
  | x :: r, y :: t => by
    show (decide (x < y) || (x == y && Spec.ltCps r t)) = _
    rw [lt_cps r t, Bool.eq_iff_iff]
    simp [List.cons_lt_cons_iff]
/-- the order of texts -/
def ltS (a b : Str) : Bool := decide (a.cps.toList < b.cps.toList)
theorem ltS_irr (a : Str) : ltS a a = false := decide_eq_false (List.lt_irrefl _)
theorem ltS_trans {a b c : Str} (h : ltS a b = true) (h2 : ltS b c = true) : ltS a c = true := decide_eq_true (List.lt_trans (of_decide_eq_true h) (of_decide_eq_true h2))
theorem ltS_tri {a b : Str} (h : ltS a b = false) (h2 : ltS b a = false) : a = b := str_ext (List.le_antisymm (List.not_lt.mp (of_decide_eq_false h2)) (List.not_lt.mp (of_decide_eq_false h)))
theorem ltS_asym {a b : Str} (h : ltS a b = true) : ltS b a = false := by
  cases q : ltS b a with
  | false => rfl
  | true => have := ltS_trans h q; rw [ltS_irr] at this; cases this
/-- ascending: none is less than one ahead of it -/
def AscS (xs : List Str) : Prop := xs.Pairwise fun a b => ltS b a = false
theorem asc_rising : ∀ (xs : List Str) (p : Str), PyProof.Rows.risingS p xs = true → AscS (p :: xs)
  | [], p, _ => List.pairwise_singleton ..
  | x :: r, p, h => by
    have h' : (!Spec.ltCps x.cps.toList p.cps.toList && PyProof.Rows.risingS x r) = true := h
    rw [Bool.and_eq_true, lt_cps] at h'
    have ih := asc_rising r x h'.2
    have hx : ltS x p = false := by
      have := h'.1
      unfold ltS
      cases q : decide (x.cps.toList < p.cps.toList) with
      | false => rfl
      | true => rw [q] at this; cases this
    refine List.pairwise_cons.mpr ⟨fun b hb => ?_, ih⟩
    rcases List.mem_cons.mp hb with rfl | hb
    · exact hx
    · have h2 := (List.pairwise_cons.mp ih).1 b hb
      cases q : ltS b p with
      | false => rfl
      | true =>
        cases q2 : ltS p x with
        | true => have := ltS_trans q q2; rw [h2] at this; cases this
        | false => rw [ltS_tri q2 hx] at q; rw [h2] at q; cases q
theorem asc_sorted {xs : List Str} (h : PyProof.Rows.sortedS xs = true) : AscS xs := by
  cases xs with
  | nil => exact List.Pairwise.nil
  | cons x r => exact asc_rising r x h
theorem asc_unique : ∀ {xs ys : List Str}, xs.Perm ys → AscS xs → AscS ys → xs = ys
  | [], ys, p, _, _ => (List.nil_perm.mp p).symm
  | x :: xs, [], p, _, _ => by have := p.length_eq; cases this
  | x :: xs, y :: ys, p, h1, h2 => by
    have e : x = y := by
      have hx : x ∈ y :: ys := p.subset List.mem_cons_self
      have hy : y ∈ x :: xs := p.symm.subset List.mem_cons_self
      rcases List.mem_cons.mp hx with rfl | hx
      · rfl
      rcases List.mem_cons.mp hy with rfl | hy
      · rfl
      exact ltS_tri ((List.pairwise_cons.mp h2).1 x hx) ((List.pairwise_cons.mp h1).1 y hy)
    subst e
    rw [asc_unique ((List.perm_cons x).mp p) (List.pairwise_cons.mp h1).2 (List.pairwise_cons.mp h2).2]
def insS (x : Str) : List Str → List Str
  | [] => [x]
  | y :: r => if ltS y x then y :: insS x r else x :: y :: r
def srt : List Str → List Str
  | [] => []
  | x :: r => insS x (srt r)
theorem insS_perm (x : Str) : ∀ r : List Str, (insS x r).Perm (x :: r)
  | [] => List.Perm.refl _
  | y :: r => by
    unfold insS
    split
    · exact ((insS_perm x r).cons y).trans (List.Perm.swap x y r)
    · exact List.Perm.refl _
theorem srt_perm : ∀ r : List Str, (srt r).Perm r
  | [] => List.Perm.refl _
  | x :: r => (insS_perm x _).trans ((srt_perm r).cons x)
theorem insS_asc {x : Str} : ∀ {r : List Str}, AscS r → AscS (insS x r)
  | [], _ => List.pairwise_singleton ..
  | y :: r, h => by
    unfold insS
    split
    · rename_i q
      refine List.pairwise_cons.mpr ⟨fun b hb => ?_, insS_asc (List.pairwise_cons.mp h).2⟩
      rcases List.mem_cons.mp ((insS_perm x r).subset hb) with rfl | hb
      · exact ltS_asym q
      · exact (List.pairwise_cons.mp h).1 b hb
    · rename_i q
      have q : ltS y x = false := by simpa using q
      refine List.pairwise_cons.mpr ⟨fun b hb => ?_, h⟩
      rcases List.mem_cons.mp hb with rfl | hb
      · exact q
      · have h2 := (List.pairwise_cons.mp h).1 b hb
        cases q3 : ltS b x with
        | false => rfl
        | true =>
          cases q2 : ltS x y with
          | true => have := ltS_trans q3 q2; rw [h2] at this; cases this
          | false => rw [ltS_tri q2 q] at q3; rw [h2] at q3; cases q3
theorem srt_asc : ∀ r : List Str, AscS (srt r)
  | [] => List.Pairwise.nil
  | x :: r => insS_asc (srt_asc r)
theorem srt_len (r : List Str) : (srt r).length = r.length := (srt_perm r).length_eq
theorem srt_eq {xs ys : List Str} (h : xs.Perm ys) : srt xs = srt ys := asc_unique ((srt_perm xs).trans (h.trans (srt_perm ys).symm)) (srt_asc _) (srt_asc _)
theorem mem_srt {s : Str} {xs : List Str} : s ∈ srt xs ↔ s ∈ xs := (srt_perm xs).mem_iff
theorem rpl_strs {F : Hp} : ∀ {ss : List Str} {vs : List V}, RpL K F (stD ss) vs → vs = ss.map V.str
  | [], vs, h => h
  | s :: ss, vs, h => by
    obtain ⟨x, ys, rfl, h1, h2⟩ := h
    rw [rpl_strs h2, show x = V.str s from h1]
    rfl
theorem rpl_mk {F : Hp} : ∀ (ss : List Str), RpL K F (stD ss) (ss.map V.str)
  | [] => rfl
  | s :: ss => ⟨.str s, _, rfl, rfl, rpl_mk ss⟩
/-- sorted(texts): lists -/
theorem rcn_srt {b : Bool} {ss : List Str} (l : Lk ka w false (stD ss) b) (hz : ss.length < 64) : RcN K (rSortedS K) ka [w] (.lst (stD (srt ss))) := fun B F0 ro ta sg H us Q e hl hm q => by
  obtain ⟨u, rfl, hu⟩ := zip_one hl hm
  obtain ⟨F, g, ef⟩ := id e
  obtain ⟨a, xs, rfl, s1, r1⟩ := l.get ef (ef.tm _ hu)
  have ex := rpl_strs r1
  subst ex
  refine ⟨a, ss, rfl, .inl s1, hz, fun ys p hp hs hn => q _ _ ?_⟩
  have ey := asc_unique (hp.trans (srt_perm ss).symm) (asc_sorted hs) (srt_asc ss)
  subst ey
  exact ⟨F, g, ef.cell (o := .lst ((srt ss).map V.str)) hn (n := .lst (stD (srt ss))) ⟨_, upd_same, rpl_mk _⟩⟩
theorem evn_srt {b : Bool} {ss : List Str} (h : EvD K te ro ka w k1) (l : Lk k1 w false (stD ss) b) (hz : ss.length < 64) : EvN K (tCB (rSortedS K) (tCons te tNil)) ro ka (.lst (stD (srt ss))) k1 := evn_cb (ea1 h) (rcn_srt l hz)
/-- str(text) -/
def rStrS : List V → Hp → VK → Prop := fun xs H Q => ∃ a, xs = [.str a] ∧ Q (.str a) H
theorem call_strS {X : Cx} : CallR X (.type "str") rStrS := SkE.call_str_str
theorem ev_strS {s : Str} (h : EvD K te ro ka (.val (.str s)) k1) : EvD K (tCB rStrS (tCons te tNil)) ro ka (.val (.str s)) k1 := ev_cb (ea1 h) fun B F0 ro ta sg H us Q e hl hm q => by
  obtain ⟨u, rfl, hu⟩ := zip_one hl hm
  have := e.tm_str hu
  subst this
  exact ⟨s, rfl, q _ _ (e.push_imm fun _ => rfl)⟩
/-- the different ones, in the order in which they come -/
def dedS (xs : List Str) : List Str := xs.foldl (fun acc s => if s ∈ acc then acc else acc ++ [s]) []
def inOrd (xs : List Str) : List Str := srt (dedS xs)
theorem dedS_snoc (xs : List Str) (s : Str) : dedS (xs ++ [s]) = if s ∈ dedS xs then dedS xs else dedS xs ++ [s] := by
  unfold dedS
  rw [List.foldl_append]
  rfl
theorem dedS_all (n : Nat) : ∀ xs : List Str, xs.length = n → (dedS xs).Nodup ∧ (∀ s, s ∈ dedS xs ↔ s ∈ xs) ∧ (dedS xs).length ≤ xs.length := by
  induction n with
  | zero => intro xs h; rw [List.eq_nil_of_length_eq_zero h]; exact ⟨List.Pairwise.nil, fun s => Iff.rfl, Nat.le_refl _⟩
  | succ n ih =>
    intro xs h
    have hne : xs ≠ [] := fun z => by rw [z] at h; cases h
    obtain ⟨h1, h2, h3⟩ := ih xs.dropLast (by rw [List.length_dropLast, h]; rfl)
    rw [← List.dropLast_concat_getLast hne]
    generalize xs.dropLast = ys at h1 h2 h3
    generalize xs.getLast hne = s
    rw [dedS_snoc]
    split
    · rename_i q
      refine ⟨h1, fun t => ?_, by rw [List.length_append]; omega⟩
      rw [h2 t, List.mem_append, List.mem_singleton]
      exact ⟨.inl, fun z => z.elim id fun z => z ▸ (h2 s).mp q⟩
    · rename_i q
      refine ⟨List.nodup_append.mpr ⟨h1, by simp, fun a ha b hb e => ?_⟩, fun t => ?_, by rw [List.length_append, List.length_append]; exact Nat.add_le_add_right h3 1⟩
      · rw [List.mem_singleton.mp hb] at e; exact q (e ▸ ha)
      · rw [List.mem_append, List.mem_append, h2 t]
theorem dedS_nd (xs : List Str) : (dedS xs).Nodup := (dedS_all _ xs rfl).1
theorem mem_dedS {xs : List Str} {s : Str} : s ∈ dedS xs ↔ s ∈ xs := (dedS_all _ xs rfl).2.1 s
theorem dedS_len (xs : List Str) : (dedS xs).length ≤ xs.length := (dedS_all _ xs rfl).2.2
/-- such a dict -/
def tabS (ss : List Str) : List (Key × D) := ss.map fun s => (.inr s, .bl true)
theorem tabS_put (ss : List Str) (s : Str) : putT (tabS ss) (.inr s) (.bl true) = tabS (if s ∈ ss then ss else ss ++ [s]) := by
  have ha : hasT (tabS ss) (Sum.inr s) = decide (s ∈ ss) := by
    unfold hasT tabS
    rw [List.any_map, Bool.eq_iff_iff]
    rw [List.any_eq_true, decide_eq_true_eq]
    constructor
    · rintro ⟨t, ht, h⟩
      have : t = s := Sum.inr.inj (of_decide_eq_true h)
      exact this ▸ ht
    · intro h
      exact ⟨s, h, decide_eq_true rfl⟩
  unfold putT
  rw [ha]
  by_cases q : s ∈ ss
  · rw [if_pos (decide_eq_true q), if_pos q]
    unfold tabS
    rw [List.map_map]
    refine List.map_congr_left fun t _ => ?_
    show newAt _ _ _ = _
    unfold newAt
    split <;> rfl
  · rw [if_neg (by simpa using q), if_neg q]
    unfold tabS
    rw [List.map_append]
    rfl
end
end DL

/-! DW: data of any depth: in, < (own work). -/
namespace DL
open PySem L2 PySem.W PySem.SeqAt
mutual
def pdD : D → PyData
  | .bl b => .bool b | .int i => .int i | .str s => .str s
  | .tup ds => .tuple (pdL ds) | .lst ds => .list (pdL ds)
  | _ => .none
def pdL : List D → List PyData
  | [] => []
  | d :: ds => pdD d :: pdL ds
end
theorem pdL_map : ∀ ds : List D, pdL ds = ds.map pdD
  | [] => by rw [pdL]; rfl
  | d :: ds => by rw [pdL, pdL_map ds]; rfl
section
variable {X : Cx} {pins : List (Addr × Obj)} {sg : L2.St} {H G : Hp} {s : Shared}
theorem reads_D (I : Inv X pins sg H s) (fz : Exz G H) (nz : Nz G) (n : Nat) : ∀ (d : D) (v : V) (u : Value), pl n d = true → Rp X.K G d v → RelV v u → ∃ as, Reads s.heap u (pdD d) as := by
  induction n with
  | zero =>
    intro d v u h r q
    cases d <;> first | (exact absurd h Bool.false_ne_true) | skip
    all_goals (have z1 := (show v = _ from r); subst z1)
    · cases q; exact ⟨_, .none⟩
    · cases q; exact ⟨_, .bool _⟩
    · obtain ⟨t, rfl⟩ := q; exact ⟨_, .int _ _⟩
    · obtain ⟨t, rfl⟩ := q; exact ⟨_, .str _ _⟩
  | succ n ih =>
    have all : ∀ (ds : List D) (xs : List V) (us : List Value), ds.all (pl n) = true → RpL X.K G ds xs → Vals xs us → ∃ as, ReadsAll s.heap us (pdL ds) as := by
      intro ds
      induction ds with
      | nil => intro xs us _ r q; rw [show xs = [] from r] at q; cases q; exact ⟨_, .nil⟩
      | cons d ds ih2 =>
        intro xs us h r q
        obtain ⟨x, ys, rfl, r1, r2⟩ := r
        rw [List.all_cons, Bool.and_eq_true] at h
        cases q with
        | cons q1 q2 =>
          obtain ⟨as, e1⟩ := ih d x _ h.1 r1 q1
          obtain ⟨bs, e2⟩ := ih2 ys _ h.2 r2 q2
          exact ⟨_, .cons e1 e2⟩
    intro d v u h r q
    cases d with
    | non => cases (show v = _ from r); cases q; exact ⟨_, .none⟩
    | bl b => cases (show v = _ from r); cases q; exact ⟨_, .bool _⟩
    | int b => cases (show v = _ from r); obtain ⟨t, rfl⟩ := q; exact ⟨_, .int _ _⟩
    | str b => cases (show v = _ from r); obtain ⟨t, rfl⟩ := q; exact ⟨_, .str _ _⟩
    | lst ds =>
      obtain ⟨a, xs, rfl, a1, a2⟩ := r
      cases q
      obtain ⟨its, t1, ⟨o, m, t2, t3, t4, t5⟩, _⟩ := I.list (.inl (fz.rd nz a1))
      obtain ⟨as, e⟩ := all ds xs its h a2 t1
      exact ⟨_, .list t2 t3 t5 (by simpa using e)⟩
    | tup ds =>
      obtain ⟨a, xs, rfl, a1, a2⟩ := r
      cases q
      obtain ⟨its, t1, ⟨o, t2, t3, m, t4⟩, _⟩ := I.tuple (sqT_mono fz nz a1)
      obtain ⟨as, e⟩ := all ds xs its h a2 t1
      exact ⟨_, .tuple t2 t3 t4 (by simpa using e)⟩
    | _ => exact absurd h Bool.false_ne_true
end
/-- values of α as data -/
structure Enc (α : Type) [DecidableEq α] [Datum α] (f : α → D) : Prop where
  pd : ∀ a, pdD (f a) = Datum.toD a
  pl : ∀ a, DL.pl 60 (f a) = true
theorem enc_str : Enc Str D.str := ⟨fun _ => by rw [pdD]; rfl, fun _ => rfl⟩
theorem enc_int : Enc Int D.int := ⟨fun _ => by rw [pdD]; rfl, fun _ => rfl⟩
theorem enc_tup {α : Type} [DecidableEq α] [Datum α] {f : α → D} (h : ∀ a, pdD (f a) = Datum.toD a) (hp : ∀ a, DL.pl 59 (f a) = true) : Enc (Tup α) (fun t => .tup (t.items.map f)) := ⟨fun t => by
  show pdD (.tup _) = PyData.tuple _
  rw [pdD, pdL_map, List.map_map]
  exact congrArg PyData.tuple (List.map_congr_left fun a _ => h a), fun t => by
  show (t.items.map f).all (DL.pl 59) = true
  rw [List.all_map, List.all_eq_true]
  exact fun a _ => hp a⟩
theorem enc_strs : Enc (Tup Str) (fun t => .tup (stD t.items)) := enc_tup (fun _ => by rw [pdD]; rfl) (fun _ => rfl)
/-- x in, not in a list or tuple of values of α -/
def rInE (K : PySem.W.Frag) (α : Type) [DecidableEq α] [Datum α] (neg : Bool) : R2 := fun x y H Q => ∃ (f : α → D) (G : Hp) (t : Bool) (a : α) (ds : List α), Enc α f ∧ Exz G H ∧ Nz G ∧ Datum.depth α ≤ 30 ∧ Rp K G (f a) x ∧ Rp K G (if t then .tup (ds.map f) else .lst (ds.map f)) y ∧ Q (.bl (if neg then !decide (a ∈ ds) else decide (a ∈ ds))) H
theorem op_inE {X : Cx} {α : Type} [DecidableEq α] [Datum α] (hu : X.A.units + 64 < cLine) : OpR X (compareOp .In) (rInE X.K α false) := by
  intro pins s sg H x y v u Q I rx ry h
  obtain ⟨f, G, t, a, ds, en, fz, nz, hd, h1, h2, q⟩ := h
  obtain ⟨as, e1⟩ := reads_D I fz nz 60 (f a) x v (en.pl a) h1 rx
  rw [en.pd] at e1
  have hp : (ds.map f).all (pl 60) = true := by rw [List.all_map, List.all_eq_true]; exact fun b _ => en.pl b
  cases t with
  | true =>
    obtain ⟨bs, e2⟩ := reads_D I fz nz 61 (.tup (ds.map f)) y u hp h2 ry
    rw [pdD, pdL_map, List.map_map, show pdD ∘ f = Datum.toD from funext en.pd] at e2
    refine in_tuple_data e2 e1 (plainAll_map ds) (Datum.plain a) (room_items (depthAll_map ds) (by omega)) ?_
    rw [any_datum]
    exact ⟨.bl _, H, I, rfl, q⟩
  | false =>
    obtain ⟨bs, e2⟩ := reads_D I fz nz 61 (.lst (ds.map f)) y u hp h2 ry
    rw [pdD, pdL_map, List.map_map, show pdD ∘ f = Datum.toD from funext en.pd] at e2
    refine in_list_data e2 e1 (plainAll_map ds) (Datum.plain a) (room_items (depthAll_map ds) (by omega)) ?_
    rw [any_datum]
    exact ⟨.bl _, H, I, rfl, q⟩
theorem op_niE {X : Cx} {α : Type} [DecidableEq α] [Datum α] (hu : X.A.units + 64 < cLine) : OpR X (compareOp .NotIn) (rInE X.K α true) := by
  intro pins s sg H x y v u Q I rx ry h
  obtain ⟨f, G, t, a, ds, en, fz, nz, hd, h1, h2, q⟩ := h
  obtain ⟨as, e1⟩ := reads_D I fz nz 60 (f a) x v (en.pl a) h1 rx
  rw [en.pd] at e1
  have hp : (ds.map f).all (pl 60) = true := by rw [List.all_map, List.all_eq_true]; exact fun b _ => en.pl b
  cases t with
  | true =>
    obtain ⟨bs, e2⟩ := reads_D I fz nz 61 (.tup (ds.map f)) y u hp h2 ry
    rw [pdD, pdL_map, List.map_map, show pdD ∘ f = Datum.toD from funext en.pd] at e2
    refine notIn_tuple_data e2 e1 (plainAll_map ds) (Datum.plain a) (room_items (depthAll_map ds) (by omega)) ?_
    rw [any_datum]
    exact ⟨.bl _, H, I, rfl, q⟩
  | false =>
    obtain ⟨bs, e2⟩ := reads_D I fz nz 61 (.lst (ds.map f)) y u hp h2 ry
    rw [pdD, pdL_map, List.map_map, show pdD ∘ f = Datum.toD from funext en.pd] at e2
    refine notIn_list_data e2 e1 (plainAll_map ds) (Datum.plain a) (room_items (depthAll_map ds) (by omega)) ?_
    rw [any_datum]
    exact ⟨.bl _, H, I, rfl, q⟩
/-- < of values of α -/
def rLtE (K : PySem.W.Frag) (α : Type) [DecidableEq α] [DatumOrd α] : R2 := fun x y H Q => ∃ (f : α → D) (G : Hp) (a b : α), Enc α f ∧ Exz G H ∧ Nz G ∧ Datum.depth α ≤ 30 ∧ Rp K G (f a) x ∧ Rp K G (f b) y ∧ Q (.bl (DatumOrd.lt a b)) H
theorem op_ltE {X : Cx} {α : Type} [DecidableEq α] [DatumOrd α] (hu : X.A.units + 64 < cLine) : OpR X (compareOp .Lt) (rLtE X.K α) := by
  intro pins s sg H x y v u Q I rx ry h
  obtain ⟨f, G, a, b, en, fz, nz, hd, h1, h2, q⟩ := h
  obtain ⟨as, e1⟩ := reads_D I fz nz 60 (f a) x v (en.pl a) h1 rx
  obtain ⟨bs, e2⟩ := reads_D I fz nz 60 (f b) y u (en.pl b) h2 ry
  rw [en.pd] at e1 e2
  exact lt_datum ⟨as, e1⟩ ⟨bs, e2⟩ (by omega) ⟨.bl _, H, I, rfl, q⟩
section
variable {K : PySem.W.Frag} {B F F0 : Hp} {ro : Ro} {ka k1 k2 k3 kr : Cells} {ta : List (V × W)} {sg : L2.St} {H H' : Hp} {te tf tg : TE} {w x y z : W}
variable {α : Type} [DecidableEq α]
theorem rv_inE [Datum α] {f : α → D} {a : α} {ds : List α} {neg t : Bool} (en : Enc α f) (hd : Datum.depth α ≤ 30) (l1 : Pk ka x (f a)) (l2 : Pk ka y (if t then .tup (ds.map f) else .lst (ds.map f))) : RvD K (rInE K α neg) ka x y (.val (.bl (if neg then !decide (a ∈ ds) else decide (a ∈ ds)))) := fun B F0 ro ta sg H u v Q e h1 h2 q => by
  obtain ⟨F, g, ef⟩ := id e
  exact ⟨f, gH H, t, a, ds, en, gH_exz, gH_nz, hd, l1.get ef (ef.tm _ h1), l2.get ef (ef.tm _ h2), q _ _ (e.push_imm fun _ => rfl)⟩
theorem rv_ltE [DatumOrd α] {f : α → D} {a b : α} (en : Enc α f) (hd : Datum.depth α ≤ 30) (l1 : Pk ka x (f a)) (l2 : Pk ka y (f b)) : RvD K (rLtE K α) ka x y (.val (.bl (DatumOrd.lt a b))) := fun B F0 ro ta sg H u v Q e h1 h2 q => by
  obtain ⟨F, g, ef⟩ := id e
  exact ⟨f, gH H, a, b, en, gH_exz, gH_nz, hd, l1.get ef (ef.tm _ h1), l2.get ef (ef.tm _ h2), q _ _ (e.push_imm fun _ => rfl)⟩
/-- tuples of texts -/
theorem ev_ltT {ss ts : List Str} (h : EvD K te ro ka (.val (.tup (stD ss))) k1) (h2 : EvD K tf ro k1 (.val (.tup (stD ts))) k2) : EvD K (tOp (rLtE K (Tup Str)) te tf) ro ka (.val (.bl (listLt ss ts))) k2 :=
  ev_op h h2 (rv_ltE (f := fun t : Tup Str => .tup (stD t.items)) (a := ⟨ss⟩) (b := ⟨ts⟩) enc_strs (by decide) .v .v)
end

/-! ### the order of tuples of texts -/
theorem listLt_irr : ∀ xs : List Str, listLt xs xs = false
  | [] => rfl
  | x :: xs => by rw [listLt, if_pos rfl, listLt_irr xs]
theorem listLt_trans : ∀ {xs ys zs : List Str}, listLt xs ys = true → listLt ys zs = true → listLt xs zs = true
  | [], [], _, h, _ => by cases h
  | [], _ :: _, [], _, h => by cases h
  | [], _ :: _, _ :: _, _, _ => rfl
  | _ :: _, [], _, h, _ => by cases h
  | _ :: _, _ :: _, [], _, h => by cases h
  | x :: xs, y :: ys, z :: zs, h, h2 => by
    rw [listLt] at h h2 ⊢
    by_cases e : x = y
    · subst e
      rw [if_pos rfl] at h
      by_cases e2 : x = z
      · subst e2
        rw [if_pos rfl] at h2 ⊢
        exact listLt_trans h h2
      · rw [if_neg e2] at h2 ⊢
        exact h2
    · rw [if_neg e] at h
      by_cases e2 : y = z
      · subst e2
        rw [if_neg e]
        exact h
      · rw [if_neg e2] at h2
        have h3 : ltS x z = true := ltS_trans (a := x) (b := y) h h2
        have e3 : x ≠ z := fun e3 => by rw [e3, ltS_irr] at h3; cases h3
        rw [if_neg e3]
        exact h3
theorem listLt_tri : ∀ {xs ys : List Str}, listLt xs ys = false → listLt ys xs = false → xs = ys
  | [], [], _, _ => rfl
  | [], _ :: _, h, _ => by cases h
  | _ :: _, [], _, h => by cases h
  | x :: xs, y :: ys, h, h2 => by
    rw [listLt] at h h2
    by_cases e : x = y
    · subst e
      rw [if_pos rfl] at h h2
      rw [listLt_tri h h2]
    · rw [if_neg e] at h
      rw [if_neg (fun z => e z.symm)] at h2
      exact absurd (ltS_tri (a := x) (b := y) h h2) e
end DL

/-! DX: a dict comprehension stored in a local name on its own line (own work over the hand layer's dc_core). -/
namespace DL
open PySem PySem.Spec PyProof.Rows L2
/-- J holds in the block of a comprehension, wherever it is entered -/
abbrev Within (X : Cx) (scope : Scope) (J : Cx → Prop) : Prop := ∀ s H C cl fp, J (X.blk s H scope (compEnvC scope cl C X.env) fp)
section
variable {X : Cx} {i : Nat} {y : Str} {py pos spos : Pos} {kx vx tg iter : Expr} {ifs : List Expr} {scope : Scope} {own : List (Str × Nat)} {wi : TI} {g : TG} {tt : TT} {tk tv : TE}
/-- the finished dict goes into the local y; nothing is left of the block -/
theorem stored_local {pins : List (Addr × Obj)} {sg : L2.St} {De : Ends} (nd : X.N.Nodup) (at_ : X.N[i]? = some y) (loc : X.env.scope.names.lookup y = some .local) (L C : Addr) (s : Shared) (m : Str → Option Value) (H : Hp)
    (I : Inv X pins sg H s) (want : De.nx (sg.set i (some (.ref L))) H) (space : s.heap.Ns C m) (own : FpOk X pins H C) :
    compPost (model X.prog X.w) X.A X.xe (some (assign (.Name y py) X.env)) (fun _ s1 => SP X pins De .next s1) (.ref L) C (.ok .next) s := by
  refine wpAny_assign_Name (store_ok2 (v := V.ref L) I nd at_ (.inl loc) rfl ?_ (.inr loc))
  rintro s2 I2 ⟨a, same, which⟩
  have apart : C ≠ a := fun e => by
    subst e
    rcases which with e | e
    · exact own.2.1 e
    · exact own.2.2.2.2.1 _ _ e rfl
  exact ⟨m, space.sameBut same apart, fun h3 last => ⟨_, H, I2.turned (t' := s2.toks) (fun b o ne e => (last.2 b ne).trans e) own.1 own.2.1 own.2.2.2.1 own.2.2.2.2.1 own.2.2.2.2.2, want⟩⟩
theorem ps_setDc (calm : X.calm = true) (nd : X.N.Nodup) (at_ : X.N[i]? = some y) (loc : X.env.scope.names.lookup y = some .local) (swap : swapsWith (.DictComp kx vx [⟨tg, iter, ifs, 0⟩] scope pos) (some (.Name y py)) spos.line X.env = pure true)
    (src : PI X tg iter wi) (blk : BlkOk X.N X.env.scope scope own) (ptg : Within X scope fun Y => PG Y tg g) (ptt : Within X scope fun Y => PTs Y ifs tt) (pk : Within X scope fun Y => PE Y kx tk) (pv : Within X scope fun Y => PE Y vx tv)
    (fold : ∀ x, foldedSetIterable iter X.env x = pure x := by intro _; rfl) : PS X (.Assign [.Name y py] (.DictComp kx vx [⟨tg, iter, ifs, 0⟩] scope pos) spos) (tAsg (tDc wi g tt tk tv (own.map (·.2))) (gName i)) := ⟨fun pins s sg H De I want => by
  have made := dc_core (Q := fun x H1 => gName i x sg H1 De.nx) (pos := pos) (pos' := firstIterPos [⟨tg, iter, ifs, 0⟩] pos) (use := some (assign (.Name y py) X.env)) (Qf := fun _ s1 => SP X pins De .next s1) calm nd I src blk ptg ptt pk pv fold want
    fun L C s1 m H1 I1 q space f => stored_local nd at_ loc L C s1 m H1 I1 q space f
  rw [exec_Assign_Name_used _ _ _ _ swap]
  exact wpAny_bind (wpAny_standAt (wpAny_bind (wpAny_bind (wpAny_mono made (fun _ _ z => wpAny_pure (wpAny_pure z)) fun _ _ z => z))))⟩
end
end DL

/-! DY: != of two tuples whose items are equal, some by an own == (own work; the equality of the items is the hand layer's EqG). -/
namespace DL
open PySem L2 PySem.SeqAt
section
variable {prog : Program} {w : World}
/-- pair by pair the == says yes, whatever objects it makes on the way; then fin holds -/
def Goes (prog : Program) (w : World) (A : Around) (E : Value → Shared → Prop) (fin : Shared → Prop) : List (Value × Value) → Shared → Prop
  | [], s => fin s
  | p :: r, s => wpAny (model prog w) A (eqBool p.1 p.2) (fun yes s1 => yes = true ∧ Goes prog w A E fin r s1) E s
theorem ne_goes {A : Around} {R : Result → Shared → Prop} {l b : Addr} {ol ob : Obj} {us ws : Array Value} {s : Shared} (at1 : s.heap.get? l = some ol) (k1 : ol.cls = .type "tuple") (d1 : ∃ n, ol.data = .seq us n) (at2 : s.heap.get? b = some ob) (k2 : ob.cls = .type "tuple") (d2 : ∃ n, ob.data = .seq ws n)
    (same : us.size = ws.size) (go : Goes prog w A.in1 (fun e s1 => R (.error e) s1) (fun s1 => R (.ok (.ret (.bool false))) s1) (us.toList.zip ws.toList) s) :
    wpAny (model prog w) A.in1 (Builtin.«tuple.__ne__» ⟨[.ref l, .ref b], []⟩) (GQ.FinOf prog w A R) (fun e s1 => R (.error e) s1) s := by
  obtain ⟨c1, dd1, da1, sl1⟩ := ol
  obtain ⟨c2, dd2, da2, sl2⟩ := ob
  obtain ⟨n1, d1⟩ := d1
  obtain ⟨n2, d2⟩ := d2
  cases k1
  cases k2
  cases d1
  cases d2
  have isTuple := AutoSeq1.sub_tuple_tuple
  obtain ⟨heap, gens, drawn, toks, os⟩ := s
  wp_walk using AutoSeq1.wpAny_loadPart' at1, AutoSeq1.wpAny_loadPart' at2, wpAny_forIn_list _ (fun left acc s1 => acc.1 = none ∧ Goes prog w A.in1 (fun e s1 => R (.error e) s1) (fun s1 => R (.ok (.ret (.bool false))) s1) left s1) _
  case turn =>
    rintro ⟨u, v⟩ left acc s1 ⟨_, now⟩
    refine wpAny_bind (wpAny_mono now (fun yes s2 z => ?_) fun _ _ z => z)
    obtain ⟨rfl, later⟩ := z
    wp_walk
    exact ⟨rfl, later⟩
  case fin =>
    rintro ⟨acc, u⟩ s1 ⟨none_, over⟩
    cases none_
    have over : R (.ok (.ret (.bool false))) s1 := over
    wp_walk
    simpa only [Builtin.Tuple.tupleCompareSizes, same, bne_self_eq_false] using over
  case h => exact ⟨rfl, go⟩
end
section
variable {X : Cx} {n : Nat} {D : Eqv}
/-- items that are equal by D go through -/
theorem goes_items (mon : Mon D) (eq : EqG X n D) {A : Around} (sub : L2.Sub X n A) {pins : List (Addr × Obj)} {sg : L2.St} {fin : Shared → Prop} :
    ∀ (xs ys : List V) (us ws : List Value) (H0 H : Hp) (s : Shared), Prs D xs ys H0 → Vals xs us → Vals ys ws → L2.Ext H0 H → Inv X pins sg H s → (∀ H1 s1, L2.Ext H0 H1 → Inv X pins sg H1 s1 → fin s1) → Goes X.prog X.w A X.xe fin (us.zip ws) s
  | [], ys, us, ws, H0, H, s, p, r1, r2, x, I, f => by cases r1; exact f H s x I
  | x0 :: xs, [], us, ws, H0, H, s, p, r1, r2, x, I, f => by have := p.1; cases this
  | x0 :: xs, y0 :: ys, us, ws, H0, H, s, p, r1, r2, x, I, f => by
    cases r1 with
    | cons a1 b1 => cases r2 with
      | cons a2 b2 =>
        have d : D x0 y0 H0 := p.2 0 x0 y0 rfl rfl
        have rest : Prs D xs ys H0 := ⟨by have := p.1; simpa using this, fun i u v h1 h2 => p.2 (i + 1) u v (by simpa using h1) (by simpa using h2)⟩
        refine wpAny_mono (eq A pins s sg H x0 y0 _ _ sub I a1 a2 (mon _ _ _ _ x d)) (fun yes s1 z => ?_) fun _ _ z => z
        obtain ⟨e, H1, I1, x1⟩ := z
        exact ⟨e, goes_items mon eq sub xs ys _ _ H0 H1 s1 rest b1 b2 (x.trans x1) I1 f⟩
def rNeTup (K : PySem.W.Frag) (D : Eqv) : R2 := fun x y H Q => ∃ a b xs ys, x = .ref a ∧ y = .ref b ∧ SqT K H a xs ∧ SqT K H b ys ∧ Prs D xs ys H ∧ ∀ H', L2.Ext H H' → Q (.bl false) H'
theorem op_neTup (mon : Mon D) (eq : EqG X n D) (room : Room (n + 1) X.A) : OpR X (compareOp .NotEq) (rNeTup X.K D) := fun pins s sg H x y v u Q I rx ry want => by
  obtain ⟨a, b, xs, ys, ex, ey, t1, t2, p, q⟩ := want
  subst ex ey
  cases rx
  cases ry
  have ⟨us, r1, ⟨o1, g1, c1, d1⟩, _⟩ := I.tuple t1
  have ⟨ws, r2, ⟨o2, g2, c2, d2⟩, _⟩ := I.tuple t2
  have size : us.toArray.size = ws.toArray.size := by rw [us.size_toArray, ws.size_toArray, ← r1.length, ← r2.length, p.1]
  have sub : L2.Sub X (n + 1) X.A := ⟨room, rfl⟩
  have go : Goes X.prog X.w X.A.in1 X.xe (fun s1 => Value.bool false ≠ .notImplemented ∧ EP X pins sg Q (.bool false) s1) (us.zip ws) s :=
    goes_items mon eq sub.in1 xs ys us ws H H s p r1 r2 L2.Ext.rfl' I fun H1 s1 x1 I1 => ⟨(fun z => nomatch z), .bl false, H1, I1, rfl, q H1 x1⟩
  refine wpAny_richCompare_same_room (op := .NotEq) ⟨o1, g1, c1⟩ ⟨o2, g2, c2⟩ PySem.F.slot_tuple_ne ?_ sub.room.units0
  exact GQ.call_here PySem.F.slot_tuple_ne ⟨o1, g1, c1⟩ PySem.F.entry_tuple_ne (PySem.F.args_tuple_ne_2 _ _) (ne_goes (R := wants (fun v s1 => v ≠ .notImplemented ∧ EP X pins sg Q v s1) X.xe) g1 c1 d1 g2 c2 d2 size (by rw [us.toList_toArray, ws.toList_toArray]; exact go))
end
end DL
namespace DL
open PySem L2 PySem.W
/-- the own == of the class at C says yes, by its contract -/
def REq (K : PySem.W.Frag) (Cc : Ct) (a b : Addr) (H : Hp) : Prop := ∃ (G : Hp) (d e : D), Nz G ∧ Exz G H ∧ Rp K G d (.ref a) ∧ Rp K G e (.ref b) ∧ Cc [.val d, .val e] [] (Rt (.bl true) [])
theorem REq.mon {K : PySem.W.Frag} {Cc : Ct} {a b : Addr} {H H' : Hp} (x : L2.Ext H H') (h : REq K Cc a b H) : REq K Cc a b H' :=
  let ⟨G, d, e, n, z, r1, r2, c⟩ := h
  ⟨G, d, e, n, z.sub x, r1, r2, c⟩
theorem spEq_sp {K : PySem.W.Frag} {Cc : Ct} {vs : List V} {H : Hp} {Q : VK} {E : XK} (h : spEq (REq K Cc) vs H Q E) : spC K Cc vs H Q E := by
  obtain ⟨a, b, rfl, ⟨G, d, e, n, z, r1, r2, c⟩, q⟩ := h
  refine ⟨H, G, [.val d, .val e], [], Rt (.bl true) [], c, rfl, ⟨G, Gr.refl _ _, ⟨n, z, Sub.refl H, List.Pairwise.nil, fun p hp => by simp at hp, rfl, fun i w h => by simp at h, fun p hp => ?_⟩⟩, fun d' ka v H' o en => ?_, fun C fs k dx H' o _ => ?_, fun C k H' o _ => ?_⟩
  · rcases List.mem_cons.mp hp with rfl | hp
    · exact r1
    · rcases List.mem_cons.mp hp with rfl | hp
      · exact r2
      · simp at hp
  · obtain ⟨o1, o2⟩ := o
    cases o1
    obtain ⟨F, g, ef⟩ := en
    have hv : v = .bl true := ef.tm _ List.mem_cons_self
    subst hv
    exact q H' ef.fr
  · obtain ⟨o1, _⟩ := o
    cases o1
  · obtain ⟨o1, _⟩ := o
    cases o1
/-- what is equal within a tuple: flat things, objects of the class at C -/
def DTE (K : PySem.W.Frag) (C : Addr) (Cc : Ct) : Eqv := fun x y H => DFlat x y H ∨ DIns C (REq K Cc) x y H
abbrev rNeTE (K : PySem.W.Frag) (C : Addr) (Cc : Ct) : R2 := rNeTup K (DTE K C Cc)
theorem dte_mon {K : PySem.W.Frag} {C : Addr} {Cc : Ct} : Mon (DTE K C Cc) := mon_flat.or (mon_ins fun _ _ _ _ e r => r.mon e)
theorem op_neT {X : Cx} {k : Nat} {C f : Addr} {ps : List Str} {Cc : Ct} {E : XK} (m : Sm X.K C "__eq__" f) (F : Fn X.prog X.w X.K X.mg X.base k f ps Cc) (hr : Room (k + 1) X.A) (hx : Passes (L2.CX X.prog X.w) X E) : OpR X (compareOp .NotEq) (rNeTE X.K C Cc) := by
  obtain ⟨fd, F, hb⟩ := F
  exact op_neTup dte_mon ((eqG_flat.mono (Nat.zero_le k)).or (eqG_ins (F.imp fun _ _ _ _ h => spEq_sp h) m.at_ m.fn hb hx)) hr
section
variable {K : PySem.W.Frag} {B F F0 : Hp} {ro : Ro} {ka k1 k2 : Cells} {ta : List (V × W)} {sg : L2.St} {H H' : Hp} {te tf : TE} {C : Addr} {Cc : Ct}
theorem En.ext (e : En K B F0 ro ka ta sg H) (x : L2.Ext H H') : En K B F0 ro ka ta sg H' := by
  obtain ⟨F, g, q⟩ := e
  refine ⟨F, g, q.nz, q.fz.sub x, fun a o h => x _ _ (q.fr _ _ h), q.nd, fun p hp => ?_, q.ln, q.sl, q.tm⟩
  obtain ⟨h1, h2, h3⟩ := q.ce p hp
  refine ⟨h1, h2, ?_⟩
  obtain ⟨a, n⟩ := p
  cases n with
  | lst ds => obtain ⟨xs, e, r⟩ := h3; exact ⟨xs, x _ _ e, r⟩
  | dic ds => obtain ⟨xs, e, r⟩ := h3; exact ⟨xs, x _ _ e, r⟩
  | dit ds => obtain ⟨xs, e, r⟩ := h3; exact ⟨xs, x _ _ e, r⟩
  | ldic o xs ds => obtain ⟨e, r⟩ := h3; exact ⟨x _ _ e, r⟩
  | ins C ds => obtain ⟨dx, xs, e, r⟩ := h3; exact ⟨dx, xs, x _ _ e, r⟩
  | xd ds => obtain ⟨xs, e, r⟩ := h3; exact ⟨xs, x _ _ e, r⟩
/-- item by item: an object of the class, or flat -/
def TeOk (C : Addr) (Cc : Ct) : List D → List D → Prop
  | [], [] => True
  | .ins c fs :: ds, .ins c' gs :: es => c = C ∧ c' = C ∧ Cc [.val (.ins c fs), .val (.ins c' gs)] [] (Rt (.bl true) []) ∧ TeOk C Cc ds es
  | .int i :: ds, .int j :: es => i = j ∧ TeOk C Cc ds es
  | .str i :: ds, .str j :: es => i = j ∧ TeOk C Cc ds es
  | _, _ => False
theorem prs_of (nz : Nz F) (fz : Exz F H) : ∀ {ds es : List D} {xs ys : List V}, TeOk C Cc ds es → RpL K F ds xs → RpL K F es ys → Prs (DTE K C Cc) xs ys H
  | [], [], xs, ys, _, h1, h2 => by rw [show xs = [] from h1, show ys = [] from h2]; exact Prs.nil
  | d :: ds, e :: es, xs, ys, t, h1, h2 => by
    obtain ⟨x, xs, rfl, r1, r2⟩ := h1
    obtain ⟨y, ys, rfl, s1, s2⟩ := h2
    cases d <;> cases e <;> first | (exact absurd t (fun z => z)) | skip
    · obtain ⟨e1, t⟩ := t
      cases (show x = _ from r1)
      cases (show y = _ from s1)
      subst e1
      refine Prs.cons (.inl ⟨rfl, rfl, ?_⟩) (prs_of nz fz t r2 s2)
      simp [eqV]
    · obtain ⟨e1, t⟩ := t
      cases (show x = _ from r1)
      cases (show y = _ from s1)
      subst e1
      refine Prs.cons (.inl ⟨rfl, rfl, ?_⟩) (prs_of nz fz t r2 s2)
      simp [eqV]
    · obtain ⟨ec, ec', hc, t⟩ := t
      rw [ec] at r1 hc
      rw [ec'] at s1 hc
      have r1' := r1
      have s1' := s1
      obtain ⟨a, dx, fs, rfl, ha, _⟩ := r1'
      obtain ⟨b, dy, gs, rfl, hb, _⟩ := s1'
      exact Prs.cons (.inr ⟨a, b, dx, dy, fs, gs, rfl, rfl, rd_ins nz fz ha, rd_ins nz fz hb, F, _, _, nz, fz, r1, s1, hc⟩) (prs_of nz fz t r2 s2)
  | [], _ :: _, _, _, t, _, _ => by simp [TeOk] at t
  | d :: ds, [], _, _, t, _, _ => by cases d <;> simp [TeOk] at t
theorem ev_neT {ds es : List D} (h : EvD K te ro ka (.val (.tup ds)) k1) (h2 : EvD K tf ro k1 (.val (.tup es)) k2) (t : TeOk C Cc ds es) : EvD K (tOp (rNeTE K C Cc) te tf) ro ka (.val (.bl false)) k2 := ev_op h h2 fun B F0 ro ta sg H u v Q e hu hv q => by
  obtain ⟨F, g, ef⟩ := id e
  obtain ⟨a, xs, rfl, s1, r1⟩ := Lk.vt.get ef (ef.tm _ hu)
  obtain ⟨b, ys, rfl, s2, r2⟩ := Lk.vt.get ef (ef.tm _ hv)
  exact ⟨a, b, xs, ys, rfl, rfl, s1, s2, prs_of ef.nz ef.fz t r1 r2, fun H' x => q _ _ ((e.ext x).push_imm fun _ => rfl)⟩
end
end DL

/-! DZ: evaluation by a relation (own work). -/
namespace DL
open PySem L2 PySem.W
/-- te ends with some value and cells of which P tells -/
def EvR (K : PySem.W.Frag) (te : TE) (ro : Ro) (ka : Cells) (P : W → Cells → Prop) : Prop := ∀ B F0 ta sg H (Q : VK), En K B F0 ro ka ta sg H → (∀ w k v H', P w k → En K B F0 ro k ((v, w) :: ta) sg H' → Q v H') → te sg H Q
def RvR (K : PySem.W.Frag) (r : R2) (ka : Cells) (x y : W) (P : W → Cells → Prop) : Prop := ∀ B F0 ro ta sg H u v (Q : VK), En K B F0 ro ka ta sg H → (u, x) ∈ ta → (v, y) ∈ ta → (∀ w k t H', P w k → En K B F0 ro k ((t, w) :: ta) sg H' → Q t H') → r u v H Q
section
variable {K : PySem.W.Frag} {B F F0 : Hp} {ro : Ro} {ka k1 k2 k3 kr : Cells} {ta : List (V × W)} {sg : L2.St} {H H' : Hp} {te tf tg : TE} {tr : TA} {w x y z : W} {n : Nd} {P P2 : W → Cells → Prop} {De : Ends} {u : TS} {E : XK} {r : R2}
theorem EvD.toR (h : EvD K te ro ka w k1) : EvR K te ro ka (fun w' k => w' = w ∧ k = k1) := fun B F0 ta sg H Q e q => h B F0 ta sg H Q e fun v H' e' => q w k1 v H' ⟨rfl, rfl⟩ e'
theorem En.tmA (e : En K B F0 ro ka ta sg H) (a : Addr) : En K B F0 ro ka ((.ref a, .val (.adr a)) :: ta) sg H := e.push_imm fun _ => rfl
theorem EvN.toR (h : EvN K te ro ka n k1) : EvR K te ro ka (fun w' k => ∃ a, w' = .val (.adr a) ∧ k = k1 ++ [(a, n)]) := fun B F0 ta sg H Q e q => h B F0 ta sg H Q e fun a H' e' => q _ _ _ H' ⟨a, rfl, rfl⟩ (e'.tmA a)
theorem EvR.imp (h : EvR K te ro ka P) (i : ∀ w k, P w k → P2 w k) : EvR K te ro ka P2 := fun B F0 ta sg H Q e q => h B F0 ta sg H Q e fun w k v H' p => q w k v H' (i w k p)
theorem RvD.toR (h : RvD K r ka x y z) : RvR K r ka x y (fun w' k => w' = z ∧ k = ka) := fun B F0 ro ta sg H u v Q e h1 h2 q => h B F0 ro ta sg H u v Q e h1 h2 fun t H' e' => q z ka t H' ⟨rfl, rfl⟩ e'
theorem RvN.toR (h : RvN K r ka x y n) : RvR K r ka x y (fun w' k => ∃ a, w' = .val (.adr a) ∧ k = ka ++ [(a, n)]) := fun B F0 ro ta sg H u v Q e h1 h2 q => h B F0 ro ta sg H u v Q e h1 h2 fun a H' e' => q _ _ _ H' ⟨a, rfl, rfl⟩ (e'.tmA a)
theorem RvR.imp (h : RvR K r ka x y P) (i : ∀ w k, P w k → P2 w k) : RvR K r ka x y P2 := fun B F0 ro ta sg H u v Q e h1 h2 q => h B F0 ro ta sg H u v Q e h1 h2 fun w k t H' p => q w k t H' (i w k p)
/-- a call whose end a word tells -/
theorem evr_call {Cc : Ct} {ws : List W} {out : Oc} (kr : Cells) (ha : EvA K tr ro ka ws (k1 ++ kr)) (hC : Cc ws k1 out) (ho : ∀ o k, out o k → ∃ d, o = .ret d) : EvR K (tCall (spC K Cc) [] E tr) ro ka (fun w k => ∃ d k2, out (.ret d) k2 ∧ w = .val d ∧ k = k2 ++ kr) := fun B F0 ta sg H Q e q =>
  ha B F0 ta sg H _ e fun vs H1 hl e1 => by
    rw [List.append_nil]
    exact sp_rel e1 hl hC ho fun d k2 v H' o e2 => q _ _ v H' ⟨d, k2, o, rfl, rfl⟩ e2
theorem EvR.op (h : EvR K te ro ka P) (h2 : ∀ w k, P w k → ∃ y k2, EvD K tf ro k y k2 ∧ RvR K r k2 w y P2) : EvR K (tOp r te tf) ro ka P2 := fun B F0 ta sg H Q e q =>
  h B F0 ta sg H _ e fun w k v H1 p e1 => by
    obtain ⟨y, k2, hb, hr⟩ := h2 w k p
    exact hb B F0 _ sg H1 _ e1 fun v2 H2 e2 => hr B F0 ro _ sg H2 v v2 Q e2 (List.mem_cons_of_mem _ List.mem_cons_self) List.mem_cons_self fun w3 k3 t H3 p3 e3 => q w3 k3 t H3 p3 (e3.held fun z hz => by
      rcases List.mem_cons.mp hz with rfl | hz
      · exact List.mem_cons_self
      · exact List.mem_cons_of_mem _ (List.mem_cons_of_mem _ (List.mem_cons_of_mem _ hz)))
theorem g_asgR {i : Nat} (h : EvR K te ro ka P) (k : ∀ w k1, P w k1 → Gp K B F0 ta De.nx (ro.set i (some w)) k1) : Gp K B F0 ta (tAsg te (gName i) De) ro ka := fun sg H e => h B F0 ta sg H _ e fun w k1 v H1 p e1 => k w k1 p _ _ (e1.set i)
theorem q_asgR {i : Nat} (h : EvR K te ro ka P) (k : ∀ w k1, P w k1 → Gp K B F0 ta (u De) (ro.set i (some w)) k1) : Gp K B F0 ta (tSeq (tAsg te (gName i)) u De) ro ka := g_asgR (De := { De with nx := u De }) h k

/-! ### methods, min -/
theorem evr_meth {Cc : Ct} {ws : List W} {out : Oc} {C : Addr} {m : Str} {fs : List (Str × D)} {b : Bool} (kr : Cells) (h : EvD K te ro ka w k1) (l : Io k1 w C fs b) (hm : fs.lookup m = none) (ha : EvA K tr ro k1 ws (k2 ++ kr)) (hC : Cc (w :: ws) k2 out) (ho : ∀ o k, out o k → ∃ d, o = .ret d) : EvR K (tMeth C m (spC K Cc) [] E te tr) ro ka (fun w' k => ∃ d k3, out (.ret d) k3 ∧ w' = .val d ∧ k = k3 ++ kr) := fun B F0 ta sg H Q e q =>
  h B F0 ta sg H _ e fun v H1 e1 => by
    obtain ⟨F, g, ef⟩ := id e1
    obtain ⟨a, dx, xs, rfl, ha1, rx⟩ := l.get ef (ef.tm _ List.mem_cons_self)
    refine ⟨a, dx, xs, rfl, ha1, rpf_none rx hm, ha B F0 _ sg H1 _ e1 fun vs H2 hl e2 => ?_⟩
    rw [List.append_nil]
    refine sp_rel (ws := w :: ws) (vs := .ref a :: vs) (kr := kr) (ta := ta) (e2.held fun p hp => ?_) (by rw [List.length_cons, List.length_cons, hl]) hC ho fun d k3 v3 H' o e3 => q _ _ v3 H' ⟨d, k3, o, rfl, rfl⟩ e3
    have hp' : p ∈ (V.ref a, w) :: (vs.zip ws ++ ta) := hp
    rcases List.mem_cons.mp hp' with rfl | hp
    · exact List.mem_append_right _ List.mem_cons_self
    · rcases List.mem_append.mp hp with hp | hp
      · exact List.mem_append_left _ hp
      · exact List.mem_append_right _ (List.mem_cons_of_mem _ hp)
theorem EvR.d (h : EvR K te ro ka P) (hP : ∀ w' k, P w' k → w' = w ∧ k = k1) : EvD K te ro ka w k1 := fun B F0 ta sg H Q e q => h B F0 ta sg H Q e fun w' k v H' p e' => by
  obtain ⟨rfl, rfl⟩ := hP w' k p
  exact q v H' e'
/-- a method that works on no cells -/
theorem ev_methP {Cc : Ct} {ws : List W} {C : Addr} {m : Str} {fs : List (Str × D)} {b : Bool} {d : D} (h : EvD K te ro ka w k1) (l : Io k1 w C fs b) (hm : fs.lookup m = none) (ha : EvA K tr ro k1 ws k2) (hC : Cc (w :: ws) [] (Rt d [])) : EvD K (tMeth C m (spC K Cc) [] E te tr) ro ka (.val d) k2 :=
  (evr_meth (k2 := []) k2 h l hm ha hC fun o k ho => ⟨d, ho.1⟩).d fun w' k ⟨d', k3, ho, e1, e2⟩ => by
    obtain ⟨h1, h2⟩ := ho
    cases h1
    exact ⟨e1, by rw [e2, h2]; rfl⟩
def rMin2 : List V → Hp → VK → Prop := fun xs H Q => ∃ i j, xs = [.int i, .int j] ∧ Q (.int (if j < i then j else i)) H
theorem ev_min2 {i j : Int} (h : EvD K te ro ka (.val (.int i)) k1) (h2 : EvD K tf ro k1 (.val (.int j)) k2) : EvD K (tCB (fun xs H Q => ∃ i j, xs = [.int i, .int j] ∧ Q (.int (if j < i then j else i)) H) (tCons te (tCons tf tNil))) ro ka (.val (.int (if j < i then j else i))) k2 := ev_cb (ea2 h h2) fun B F0 ro ta sg H us Q e hl hm q => by
  obtain ⟨u, v, rfl, hu, hv⟩ := zip_two hl hm
  have h1 := e.tm_int hu
  have h2 := e.tm_int hv
  subst h1 h2
  exact ⟨i, j, rfl, q _ _ (e.push_imm fun _ => rfl)⟩

theorem lkN {β : Type} {f g : Str} {v : β} (h : f ≠ g) : List.lookup f [(g, v)] = none := by
  have : (f == g) = false := beq_eq_false_iff_ne.mpr h
  simp [List.lookup, this]
/-- the pool, wherever the def holds it -/
theorem q_turn {s0 w : W} {n : Nat} {Pp : L2.St → Hp → Prop} (hl : ro.length = n + 2) (h0 : ro[0]? = some (some s0)) (h : Gp K B F0 ta Pp (some s0 :: some w :: List.replicate n none) ka) : Gp K B F0 ta Pp (ro.set 1 (some w)) ka := by
  refine h.forget ?_ fun i w' hi => ?_
  · rw [List.length_cons, List.length_cons, List.length_replicate, List.length_set, hl]
  · cases i with
    | zero =>
      cases hi
      rw [List.getElem?_set_ne (by decide)]
      exact h0
    | succ i =>
      cases i with
      | zero =>
        cases hi
        exact List.getElem?_set_self (by omega)
      | succ i =>
        have hi' : (List.replicate n (none : Option W))[i]? = some (some w') := hi
        obtain ⟨h1, h2⟩ := List.getElem?_eq_some_iff.mp hi'
        rw [List.getElem_replicate] at h2
        cases h2
theorem pl_two (ss : List Str) (k : Int) : pl 61 (.tup [.tup (stD ss), .int k]) = true := by
  show ((stD ss).all (pl 59) && (true && true)) = true
  rw [pl_stD]
  rfl
theorem bits_le {j : Int} (h : 0 ≤ j ∧ j < 2 ^ 32) : Builtin.Int.intBits j ≤ 64 := by
  unfold Builtin.Int.intBits
  split
  · exact Nat.zero_le _
  · rename_i q
    have hz : j.natAbs ≠ 0 := fun z => q (beq_iff_eq.mpr (by omega))
    have := (Nat.log2_lt hz (k := 32)).mpr (by omega)
    omega
theorem ev_mulV {i j : Int} (h : EvD K te ro ka (.val (.int i)) k1) (h2 : EvD K tf ro k1 (.val (.int j)) k2) (c : IntMulOk i j) : EvD K (tOp (rMulV K) te tf) ro ka (.val (.int (i * j))) k2 := ev_op h h2 (rvd_l (rvd_l (rv_I c fun _ => rfl)))
theorem inV_strs (s : Str) : ∀ ss : List Str, inV (.str s) (ss.map V.str) = decide (s ∈ ss)
  | [] => rfl
  | t :: ss => by
    show ((t == s) || inV (.str s) (ss.map V.str)) = _
    rw [inV_strs s ss, Bool.eq_iff_iff, Bool.or_eq_true, decide_eq_true_eq, decide_eq_true_eq, List.mem_cons, beq_iff_eq]
    exact ⟨fun h => h.elim (fun q => .inl q.symm) .inr, fun h => h.elim (fun q => .inl q.symm) .inr⟩
theorem all_flat : ∀ ss : List Str, (ss.map V.str).all flatV = true
  | [] => rfl
  | t :: ss => by
    rw [List.map_cons, List.all_cons, all_flat ss]
    rfl
theorem rv_inL {neg tt b : Bool} {s : Str} {ss : List Str} (l : Lk ka y tt (stD ss) b) : RvD K (rIn K neg) ka (.val (.str s)) y (.val (.bl (if neg then !decide (s ∈ ss) else decide (s ∈ ss)))) := fun B F0 ro ta sg H u v Q e h1 h2 q => by
  obtain ⟨F, g, ef⟩ := id e
  have hu := e.tm_str h1
  subst hu
  obtain ⟨a, xs, rfl, s1, r1⟩ := l.get ef (ef.tm _ h2)
  have ex := rpl_strs r1
  subst ex
  refine ⟨a, ss.map V.str, rfl, s1.sq, rfl, all_flat ss, ?_⟩
  rw [inV_strs]
  exact q _ _ (e.push_imm fun _ => rfl)
theorem ev_inL {tt b : Bool} {s : Str} {ss : List Str} (h : EvD K te ro ka (.val (.str s)) k1) (h2 : EvD K tf ro k1 y k2) (l : Lk k2 y tt (stD ss) b) : EvD K (tOp (rInU K) te tf) ro ka (.val (.bl (decide (s ∈ ss)))) k2 := ev_op h h2 (rvd_r (rv_inL (neg := false) l))
theorem ev_niL {tt b : Bool} {s : Str} {ss : List Str} (h : EvD K te ro ka (.val (.str s)) k1) (h2 : EvD K tf ro k1 y k2) (l : Lk k2 y tt (stD ss) b) : EvD K (tOp (rNiU K) te tf) ro ka (.val (.bl (!decide (s ∈ ss)))) k2 := ev_op h h2 (rvd_r (rv_inL (neg := true) l))
theorem ei_map {α : Type} {ts : List α} {f : α → D} (h : EvD K te ro ka (.val (.lst (ts.map f))) k1) : EvI K (iSeq K te) ro ka (ts.map fun t => W.val (f t)) (fun _ => True) k1 := by
  have := ei_seq h .vl
  have e : (ts.map f).map (part false) = ts.map fun t => W.val (f t) := by rw [List.map_map]; rfl
  rw [e] at this
  exact this
theorem ei_strs {ss : List Str} (h : EvD K te ro ka (.val (.lst (stD ss))) k1) : EvI K (iSeq K te) ro ka (ss.map fun s => W.val (.str s)) (fun _ => True) k1 := by
  have := ei_seq h .vl
  unfold stD at this
  rw [List.map_map] at this
  exact this

/-! ### targets -/
/-- the target g takes a value of w: the slots behind it -/
def AsT (K : PySem.W.Frag) (g : TG) (w : W) (ro ro' : Ro) : Prop := ∀ B F0 ka ta sg H v (Q : L2.St → Hp → Prop), En K B F0 ro ka ta sg H → (v, w) ∈ ta → (∀ sg', En K B F0 ro' ka ta sg' H → Q sg' H) → g v sg H Q
def AsL (K : PySem.W.Frag) (t : TGs) (ws : List W) (ro ro' : Ro) : Prop := ∀ B F0 ka ta sg H vs (Q : L2.St → Hp → Prop), En K B F0 ro ka ta sg H → vs.length = ws.length → (∀ p ∈ vs.zip ws, p ∈ ta) → (∀ sg', En K B F0 ro' ka ta sg' H → Q sg' H) → t vs sg H Q
variable {ro' ro2 : Ro} {g : TG} {t : TGs} {ws : List W}
theorem at_n {i : Nat} : AsT K (gName i) w ro (ro.set i (some w)) := fun B F0 ka ta sg H v Q ⟨F, g, e⟩ h q => q _ ⟨F, g, e.set (e.tm _ h) i⟩
theorem al_nil : AsL K gNil [] ro ro := fun B F0 ka ta sg H vs Q e hl h q => ⟨List.eq_nil_of_length_eq_zero hl, q _ e⟩
theorem al_cons (h1 : AsT K g w ro ro2) (h2 : AsL K t ws ro2 ro') : AsL K (gCons g t) (w :: ws) ro ro' := fun B F0 ka ta sg H vs Q e hl h q => by
  cases vs with
  | nil => cases hl
  | cons v r => exact ⟨v, r, rfl, h1 B F0 ka ta sg H v _ e (h _ List.mem_cons_self) fun sg1 e1 => h2 B F0 ka ta sg1 H r Q e1 (by simpa using hl) (fun p hp => h p (List.mem_cons_of_mem _ hp)) q⟩
theorem at_tup {ds : List D} {m : Nat} (hm : ds.length = m) (h : AsL K t (ds.map W.val) ro ro') : AsT K (gTup K m t) (.val (.tup ds)) ro ro' := fun B F0 ka ta sg H v Q e hv q => by
  obtain ⟨F, gr, ef⟩ := id e
  obtain ⟨a, xs, rfl, s1, r1⟩ := Lk.vt.get ef (ef.tm _ hv)
  refine ⟨a, xs, rfl, s1, by rw [rpl_len r1, hm], h B F0 ka (xs.zip (ds.map W.val) ++ ta) sg H xs Q ?_ (by rw [List.length_map, rpl_len r1]) (fun p hp => List.mem_append_left _ hp) fun sg' e' => q sg' (e'.held fun p hp => List.mem_append_right _ hp)⟩
  refine ⟨F, gr, ⟨ef.nz, ef.fz, ef.fr, ef.nd, ef.ce, ef.ln, ef.sl, fun p hp => ?_⟩⟩
  rcases List.mem_append.mp hp with hp | hp
  · have : ∀ (ds : List D) (xs : List V), RpL K F ds xs → ∀ p ∈ xs.zip (ds.map W.val), WOk K B F p.1 p.2 := by
      intro ds
      induction ds with
      | nil => intro xs h p hp; rw [show xs = [] from h] at hp; simp at hp
      | cons d ds ih =>
        intro xs h p hp
        obtain ⟨x, ys, rfl, h1, h2⟩ := h
        rcases List.mem_cons.mp hp with rfl | hp
        · exact h1
        · exact ih ys h2 p hp
    exact this ds xs r1 p hp
  · exact ef.tm p hp
theorem at_t2 {d1 d2 : D} {i j : Nat} : AsT K (gTup K 2 (gCons (gName i) (gCons (gName j) gNil))) (.val (.tup [d1, d2])) ro ((ro.set i (some (.val d1))).set j (some (.val d2))) := at_tup rfl (al_cons at_n (al_cons at_n al_nil))
theorem g_asgT (h : EvD K te ro ka w k1) (a : AsT K g w ro ro') (k : Gp K B F0 ta De.nx ro' k1) : Gp K B F0 ta (tAsg te g De) ro ka := fun sg H e => h B F0 ta sg H _ e fun v H1 e1 => a B F0 k1 _ sg H1 v _ e1 List.mem_cons_self fun sg' e' => k _ _ e'.pop
theorem q_asgT (h : EvD K te ro ka w k1) (a : AsT K g w ro ro') (k : Gp K B F0 ta (u De) ro' k1) : Gp K B F0 ta (tSeq (tAsg te g) u De) ro ka := g_asgT (De := { De with nx := u De }) h a k
/-- a loop whose target is of any form -/
theorem g_forT {wi : TI} {C : Cells → Prop} {tb : TS} (h : EvI K wi ro ka ws C k1) (Inv : Nat → Ro → Cells → Prop) (h0 : Inv 0 ro k1) (hC : ∀ i ro2 ka2, Inv i ro2 ka2 → C ka2)
    (hs : ∀ i w ro2 ka2 ta', ws[i]? = some w → Inv i ro2 ka2 → ∃ ro3, AsT K g w ro2 ro3 ∧ Gp K B F0 ta' (tb { De with nx := Jp K B F0 ta' (Inv (i + 1)), ct := Jp K B F0 ta' (Inv (i + 1)), bk := De.nx }) ro3 ka2)
    (hd : ∀ ro2 ka2 ta', Inv ws.length ro2 ka2 → (∀ p ∈ ta, p ∈ ta') → Gp K B F0 ta' De.nx ro2 ka2) : Gp K B F0 ta (tFor wi g tb De) ro ka :=
  g_for h Inv h0 hC (fun i w ro2 ka2 hw inv ta' sg H e x ex => by
    obtain ⟨ro3, a, gp⟩ := hs i w ro2 ka2 ta' hw inv
    exact a B F0 ka2 _ sg H x _ ex List.mem_cons_self fun sg' e' => gp _ _ e'.pop) hd
theorem q_forT {wi : TI} {C : Cells → Prop} {tb : TS} (h : EvI K wi ro ka ws C k1) (Inv : Nat → Ro → Cells → Prop) (h0 : Inv 0 ro k1) (hC : ∀ i ro2 ka2, Inv i ro2 ka2 → C ka2)
    (hs : ∀ i w ro2 ka2 ta', ws[i]? = some w → Inv i ro2 ka2 → ∃ ro3, AsT K g w ro2 ro3 ∧ Gp K B F0 ta' (tb { De with nx := Jp K B F0 ta' (Inv (i + 1)), ct := Jp K B F0 ta' (Inv (i + 1)), bk := u De }) ro3 ka2)
    (hd : ∀ ro2 ka2 ta', Inv ws.length ro2 ka2 → (∀ p ∈ ta, p ∈ ta') → Gp K B F0 ta' (u De) ro2 ka2) : Gp K B F0 ta (tSeq (tFor wi g tb) u De) ro ka := g_forT (De := { De with nx := u De }) h Inv h0 hC hs hd
end
end DL

/-! EA: dicts read and written, walked while frozen, objects frozen (own work). -/
namespace DL
open PySem L2 PySem.W

/-- w is a dict of ds; b: viewed -/
inductive Dk (ka : Cells) : W → List (Key × D) → Bool → Prop where
  | v {ds : List (Key × D)} : Dk ka (.val (.dic ds)) ds false
  | w {ds : List (Key × D)} : Dk ka (.vw (.dic ds)) ds true
  | ce {a : Addr} {ds : List (Key × D)} (j : Nat) (h : ka[j]? = some (a, .dic ds)) : Dk ka (.val (.adr a)) ds false
  | cl {a : Addr} {o : Obj} {xs : List (Key × V)} {ds : List (Key × D)} (j : Nat) (h : ka[j]? = some (a, .ldic o xs ds)) : Dk ka (.val (.adr a)) ds false
section
variable {K : PySem.W.Frag} {B B' F F' F0 : Hp} {ro ro' : Ro} {ka k1 k2 k3 kr : Cells} {ta : List (V × W)} {sg sg' : L2.St} {H H' : Hp} {te tf tg td ty tk tv : TE} {tr : TA} {tt tu : TT} {w x y z : W} {n m : Nd} {C dx a : Addr} {b : Bool} {P : L2.St → Hp → Prop} {De : Ends} {t u : TS} {E : XK} {ds : List (Key × D)}
theorem Dk.get {v : V} (l : Dk ka w ds b) (e : EnF K B F ro ka ta sg H) (h : WOk K B F v w) : ∃ a xs, v = .ref a ∧ Rd H a (.dK xs) ∧ RpK K (if b then uni B F else F) ds xs := by
  cases l with
  | v =>
    obtain ⟨a, xs, rfl, h1, h2⟩ := h
    exact ⟨a, xs, rfl, e.fz.rd e.nz h1, h2⟩
  | w =>
    obtain ⟨a, xs, rfl, h1, h2⟩ := h
    exact ⟨a, xs, rfl, (uni_exz e.fz e.fr).rd (uni_nz e.nz) h1, h2⟩
  | ce j hj =>
    obtain rfl : v = .ref _ := h
    obtain ⟨_, _, xs, h1, h2⟩ := e.ce _ (List.mem_of_getElem? hj)
    exact ⟨_, xs, rfl, .inl h1, h2⟩
  | cl j hj =>
    obtain rfl : v = .ref _ := h
    obtain ⟨_, _, h1, h2⟩ := e.ce _ (List.mem_of_getElem? hj)
    exact ⟨_, _, rfl, .inr ⟨_, h1⟩, h2⟩
theorem En.dk {v : V} (l : Dk ka w ds b) (e : En K B F0 ro ka ta sg H) (h : (v, w) ∈ ta) : ∃ F a xs, Gr B F0 F ∧ EnF K B F ro ka ta sg H ∧ v = .ref a ∧ Rd H a (.dK xs) ∧ RpK K (if b then uni B F else F) ds xs := by
  obtain ⟨F, g, ef⟩ := e
  obtain ⟨a, xs, h1, h2, h3⟩ := l.get ef (ef.tm _ h)
  exact ⟨F, a, xs, g, ef, h1, h2, h3⟩
theorem getV {xs : List (Key × V)} {k : Key} : valV xs k = getT xs k := rfl
/-- d[text] -/
theorem ev_dget {s : Str} {d : D} (h : EvD K td ro ka w k1) (h2 : EvD K ty ro k1 (.val (.str s)) k2) (l : Dk k2 w ds b) (hd : getT ds (.inr s) = some d) : EvD K (tDGet td ty) ro ka (part b d) k2 := fun B F0 ta sg H Q e q =>
  h B F0 ta sg H _ e fun u H1 e1 => h2 B F0 _ sg H1 _ e1 fun v H2 e2 => by
    have hv := e2.tm_str (v := v) (i := s) List.mem_cons_self
    subst hv
    obtain ⟨F, a, xs, g, ef, rfl, h3, h4⟩ := e2.dk l (List.mem_cons_of_mem _ List.mem_cons_self)
    obtain ⟨x, hx, rx⟩ := ((rpk_pt.mp h4).get (.inr s)).2 d hd
    refine ⟨a, x, rfl, .inl ⟨xs, .inr s, h3, rfl, ?_⟩, q _ _ ⟨F, g, ?_⟩⟩
    · rw [getV, hx]
    · exact (ef.held (ta' := ta) fun p hp => List.mem_cons_of_mem _ (List.mem_cons_of_mem _ hp)).push (wok_part b rx)
theorem ev_dgetV {s : Str} {d : D} (h : EvD K td ro ka w k1) (h2 : EvD K ty ro k1 (.val (.str s)) k2) (l : Dk k2 w ds false) (hd : getT ds (.inr s) = some d) : EvD K (tDGet td ty) ro ka (.val d) k2 := ev_dget h h2 l hd
/-- text in d -/
theorem ev_din {s : Str} (h : EvD K ty ro ka (.val (.str s)) k1) (h2 : EvD K td ro k1 w k2) (l : Dk k2 w ds b) : EvD K (tDIn ty td) ro ka (.val (.bl (getT ds (.inr s)).isSome)) k2 := fun B F0 ta sg H Q e q =>
  h B F0 ta sg H _ e fun u H1 e1 => h2 B F0 _ sg H1 _ e1 fun v H2 e2 => by
    have hv := e2.tm_str (v := u) (i := s) (List.mem_cons_of_mem _ List.mem_cons_self)
    subst hv
    obtain ⟨F, a, xs, g, ef, rfl, h3, h4⟩ := e2.dk l List.mem_cons_self
    have hg := (rpk_pt.mp h4).get (.inr s)
    refine ⟨a, getT xs (.inr s), rfl, .inl ⟨xs, .inr s, h3, rfl, rfl⟩, q _ _ ?_⟩
    have e5 := (e2.held (ta' := ta) fun p hp => List.mem_cons_of_mem _ (List.mem_cons_of_mem _ hp)).push_imm (v := .bl (getT xs (.inr s)).isSome) (w := .val (.bl (getT xs (.inr s)).isSome)) fun _ => rfl
    cases hd : getT ds (.inr s) with
    | none => rw [hg.1 hd] at e5 ⊢; exact e5
    | some d =>
      obtain ⟨x, hx, _⟩ := hg.2 d hd
      rw [hx] at e5 ⊢
      exact e5
theorem ev_dni {s : Str} (h : EvD K ty ro ka (.val (.str s)) k1) (h2 : EvD K td ro k1 w k2) (l : Dk k2 w ds b) : EvD K (tDNotIn ty td) ro ka (.val (.bl (!(getT ds (.inr s)).isSome))) k2 := fun B F0 ta sg H Q e q =>
  h B F0 ta sg H _ e fun u H1 e1 => h2 B F0 _ sg H1 _ e1 fun v H2 e2 => by
    have hv := e2.tm_str (v := u) (i := s) (List.mem_cons_of_mem _ List.mem_cons_self)
    subst hv
    obtain ⟨F, a, xs, g, ef, rfl, h3, h4⟩ := e2.dk l List.mem_cons_self
    have hg := (rpk_pt.mp h4).get (.inr s)
    refine ⟨a, getT xs (.inr s), rfl, .inl ⟨xs, .inr s, h3, rfl, rfl⟩, q _ _ ?_⟩
    have e5 := (e2.held (ta' := ta) fun p hp => List.mem_cons_of_mem _ (List.mem_cons_of_mem _ hp)).push_imm (v := .bl (!(getT xs (.inr s)).isSome)) (w := .val (.bl (!(getT xs (.inr s)).isSome))) fun _ => rfl
    cases hd : getT ds (.inr s) with
    | none => rw [hg.1 hd] at e5 ⊢; exact e5
    | some d =>
      obtain ⟨x, hx, _⟩ := hg.2 d hd
      rw [hx] at e5 ⊢
      exact e5
/-- d[text] = v -/
theorem g_dput {s : Str} {d : D} {j : Nat} (hv : EvD K tv ro ka (.val d) k1) (ho : EvD K td ro k1 (.val (.adr a)) k2) (hi : EvD K ty ro k2 (.val (.str s)) k3) (hj : k3[j]? = some (a, .dic ds)) (hz : ds.length < 100000)
    (k : Gp K B F0 ta De.nx ro (k3.set j (a, .dic (putT ds (.inr s) d)))) : Gp K B F0 ta (sDPut td ty tv De) ro ka := fun sg H e =>
  hv B F0 ta sg H _ e fun v H1 e1 => ho B F0 _ sg H1 _ e1 fun u H2 e2 => hi B F0 _ sg H2 _ e2 fun y H3 e3 => by
    have hy := e3.tm_str (v := y) (i := s) List.mem_cons_self
    have hu := e3.tm_adr (v := u) (a := a) (List.mem_cons_of_mem _ List.mem_cons_self)
    subst hy hu
    obtain ⟨F, g, ef, xs, hx, rx⟩ := e3.cellAt hj
    have hvd := ef.tm (v, .val d) (List.mem_cons_of_mem _ (List.mem_cons_of_mem _ List.mem_cons_self))
    refine ⟨a, _, rfl, .inl ⟨xs, .inr s, hx, rfl, ?_, rfl⟩, k _ _ ⟨F, g, ?_⟩⟩
    · rw [(rpk_pt.mp rx).len]
      exact Nat.lt_of_lt_of_le hz (by decide : 100000 ≤ sizeLine)
    · exact (ef.write (o := .dK (putK xs (.inr s) v)) (n' := .dic (putT ds (.inr s) d)) hj ⟨_, upd_same, rpk_pt.mpr ((rpk_pt.mp rx).put (.inr s) hvd)⟩).held fun p hp => List.mem_cons_of_mem _ (List.mem_cons_of_mem _ (List.mem_cons_of_mem _ hp))
theorem q_dput {s : Str} {d : D} {j : Nat} (hv : EvD K tv ro ka (.val d) k1) (ho : EvD K td ro k1 (.val (.adr a)) k2) (hi : EvD K ty ro k2 (.val (.str s)) k3) (hj : k3[j]? = some (a, .dic ds)) (hz : ds.length < 100000)
    (k : Gp K B F0 ta (u De) ro (k3.set j (a, .dic (putT ds (.inr s) d)))) : Gp K B F0 ta (tSeq (sDPut td ty tv) u De) ro ka := g_dput (De := { De with nx := u De }) hv ho hi hj hz k
/-- {} -/
theorem evn_dnew : EvN K tDNewK ro ka (.dic []) ka := fun B F0 ta sg H Q e q => fun p hp => by
  obtain ⟨F, g, e⟩ := e
  exact q p _ ⟨F, g, e.cell (o := .dK []) hp (n := .dic []) ⟨[], upd_same, rfl⟩⟩
/-- {text: v} -/
theorem evn_disp1 {s : Str} {d : D} (hk : EvD K tk ro ka (.val (.str s)) k1) (hv : EvD K tv ro k1 (.val d) k2) : EvN K (tDisp [(tk, tv)]) ro ka (.dic [(.inr s, d)]) k2 := fun B F0 ta sg H Q e q => fun p hp => by
  obtain ⟨F, g, e⟩ := e
  have e1 : En K B F0 ro (ka ++ [(p, .dic [])]) ta sg (upd H p (.dK [])) := ⟨F, g, e.cell (o := .dK []) hp (n := .dic []) ⟨[], upd_same, rfl⟩⟩
  refine hk.fr [(p, .dic [])] B F0 ta sg _ _ e1 fun x H1 e2 => ?_
  have hx := e2.tm_str (v := x) (i := s) List.mem_cons_self
  subst hx
  refine hv.fr [(p, .dic [])] B F0 _ sg _ _ e2 fun y H2 e3 => ?_
  have hj : (k2 ++ [(p, Nd.dic [])])[k2.length]? = some (p, Nd.dic []) := by simp
  obtain ⟨F2, g2, ef, xs, hx2, rx⟩ := e3.cellAt hj
  obtain rfl : xs = [] := rx
  have hvd := ef.tm (y, .val d) List.mem_cons_self
  refine ⟨hx2, [(.inr s, y)], rfl, (by show 1 ≤ 15; decide), q p _ ⟨F2, g2, ?_⟩⟩
  have e4 := ef.write (o := .dK [(.inr s, y)]) (n' := .dic [(.inr s, d)]) hj ⟨_, upd_same, ⟨y, [], rfl, hvd, rfl⟩⟩
  rw [List.set_append_right _ _ (Nat.le_refl _), Nat.sub_self] at e4
  exact e4.held fun p hp => List.mem_cons_of_mem _ (List.mem_cons_of_mem _ hp)

/-! ### a frozen dict is walked -/
/-- what stands at a path of fields stays the same while things are locked -/
def EvP (K : PySem.W.Frag) (te : TE) (ro : Ro) (w : W) : Prop := ∀ B F ka ta sg H, EnF K B F ro ka ta sg H → ∃ v, WOk K B F v w ∧ ∀ H' (Q : VK), (∀ a u, H a = some u → lk u = false → H' a = some u) → Q v H' → te sg H' Q
theorem evp_var {i : Nat} (h : ro[i]? = some (some w)) : EvP K (tVar i) ro w := fun B F ka ta sg H e => by
  obtain ⟨v, h1, h2⟩ := e.sl i w h
  exact ⟨v, h2, fun H' Q _ q => ⟨v, h1, q⟩⟩
theorem evp_fld {f : Str} {d : D} {fs : List (Str × D)} (h : EvP K te ro (.val (.ins C fs))) (c : Cls K C) (nf : NoAttr K C f) (hd : fs.lookup f = some d) : EvP K (tFld K te f) ro (.val d) := fun B F ka ta sg H e => by
  obtain ⟨v, h1, h2⟩ := h B F ka ta sg H e
  obtain ⟨a, dx, xs, rfl, h3, h4⟩ := h1
  obtain ⟨x, hx, rx⟩ := rpf_lookup h4 hd
  have h5 := rd_ins e.nz e.fz h3
  exact ⟨x, rx, fun H' Q hH q => h2 H' _ hH ⟨a, C, dx, xs, x, rfl, hH a _ h5 rfl, c, nf, hx, q⟩⟩
theorem uni_upd {o : Obj} {u : HO} (hl : lk u = true) (h : F a = some u ∨ B a = some u) : uni (upd B a (.frz o u)) F = uni B F := by
  funext c
  unfold uni
  cases q : F c with
  | some x => rfl
  | none =>
    by_cases hc : c = a
    · subst hc
      rw [upd_same]
      rcases h with h | h
      · rw [h] at q; cases q
      · rw [h]
        simp only [hl, if_true]
        cases u <;> first | rfl | cases hl
    · rw [upd_ne hc]
/-- a frozen thing is locked for a while -/
theorem EnF.lockF {o : Obj} {u : HO} (e : EnF K B F ro ka ta sg H) (hF : F a = some u) (hl : lk u = true) (hH : H a = some u ∨ H a = some (.frz o u)) : EnF K (upd B a (.frz o u)) F ro ka ta sg (upd H a (.frz o u)) := by
  have wk : ∀ {v : V} {w : W}, WOk K B F v w → WOk K (upd B a (.frz o u)) F v w := fun {v w} h => by
    cases w with
    | val d => exact h
    | vw d =>
      show Rp K (uni (upd B a (.frz o u)) F) d v
      rw [uni_upd hl (.inl hF)]
      exact h
  refine ⟨e.nz, fun c x h => ?_, fun c x h => ?_, e.nd, fun p hp => ?_, e.ln, fun i w h => ?_, fun p hp => wk (e.tm p hp)⟩
  · by_cases hc : c = a
    · subst hc
      rw [hF] at h
      cases h
      exact .inr ⟨hl, o, upd_same⟩
    · rcases e.fz c x h with q | ⟨q1, q2, q3⟩
      · exact .inl (by rw [upd_ne hc]; exact q)
      · exact .inr ⟨q1, q2, by rw [upd_ne hc]; exact q3⟩
  · by_cases hc : c = a
    · subst hc; rw [upd_same] at h ⊢; exact h
    · rw [upd_ne hc] at h ⊢; exact e.fr c x h
  · obtain ⟨h1, h2, h3⟩ := e.ce p hp
    have hc : p.1 ≠ a := fun z => by rw [z, hF] at h1; cases h1
    exact ⟨h1, by rw [upd_ne hc]; exact h2, ndok_at (upd_ne hc) h3⟩
  · obtain ⟨v, h1, h2⟩ := e.sl i w h
    exact ⟨v, h1, wk h2⟩
/-- .. and back: B stands as before -/
theorem EnF.unlockF {o : Obj} {u : HO} (e : EnF K (upd B a (.frz o u)) F ro ka ta sg H) (hF : F a = some u) (hl : lk u = true) {x : HO} (hx : x = u ∨ x = .frz o u) (hB : ∀ y, B a = some y → y = x) : EnF K B F ro ka ta sg (upd H a x) := by
  have wk : ∀ {v : V} {w : W}, WOk K (upd B a (.frz o u)) F v w → WOk K B F v w := fun {v w} h => by
    cases w with
    | val d => exact h
    | vw d =>
      have h' : Rp K (uni (upd B a (.frz o u)) F) d v := h
      rw [uni_upd hl (.inl hF)] at h'
      exact h'
  refine ⟨e.nz, fun c y h => ?_, fun c y h => ?_, e.nd, fun p hp => ?_, e.ln, fun i w h => ?_, fun p hp => wk (e.tm p hp)⟩
  · by_cases hc : c = a
    · subst hc
      rw [hF] at h
      cases h
      rcases hx with rfl | rfl
      · exact .inl upd_same
      · exact .inr ⟨hl, o, upd_same⟩
    · rcases e.fz c y h with q | ⟨q1, q2, q3⟩
      · exact .inl (by rw [upd_ne hc]; exact q)
      · exact .inr ⟨q1, q2, by rw [upd_ne hc]; exact q3⟩
  · by_cases hc : c = a
    · subst hc; rw [upd_same, hB y h]
    · rw [upd_ne hc]; exact e.fr c y (by rw [upd_ne hc]; exact h)
  · obtain ⟨h1, h2, h3⟩ := e.ce p hp
    have hc : p.1 ≠ a := fun z => by rw [z, hF] at h1; cases h1
    rw [upd_ne hc] at h2
    exact ⟨h1, h2, ndok_at (upd_ne hc) h3⟩
  · obtain ⟨v, h1, h2⟩ := e.sl i w h
    exact ⟨v, h1, wk h2⟩
end
end DL

/-! EB: loops and comprehensions over frozen dicts (own work). -/
namespace DL
open PySem L2 PySem.W
def tLkS (t : TS) : TS := fun D σ H => t D σ H ∨ tLock t D σ H
def tLkE (t : TE) : TE := fun σ H Q => t σ H Q ∨ tLockE t σ H Q
theorem ps_lkS {X : Cx} {st : Stmt} {t : TS} (h : PS X st t) : PS X st (tLkS t) := ⟨fun pins s σ H D I q => q.elim (h.run pins s σ H D I) ((ps_lock h).run pins s σ H D I)⟩
theorem pe_lkE {X : Cx} {e : Expr} {t : TE} (h : PE X e t) : PE X e (tLkE t) := ⟨fun pins s σ H Q I q => q.elim (h.run pins s σ H Q I) ((pe_lock h).run pins s σ H Q I)⟩
/-- what is walked, at one state -/
def EvIat (K : PySem.W.Frag) (B F0 : Hp) (wi : TI) (ro : Ro) (ws : List W) (C : Cells → Prop) (ka' : Cells) (ta : List (V × W)) (sg : L2.St) (H : Hp) : Prop := ∀ (R : It → Hp → Prop),
  (∀ J ta' H', (∀ p ∈ ta, p ∈ ta') → En K B F0 ro ka' ta' sg H' →
    (∀ i w ro2 ka2 ta2 sg2 H2, ws[i]? = some w → C ka2 → (∀ p ∈ ta', p ∈ ta2) → En K B F0 ro2 ka2 ta2 sg2 H2 → J.go i H2 ∧ ∀ x H3, J.yld i H2 x H3 → En K B F0 ro2 ka2 ((x, w) :: ta2) sg2 H3) →
    (∀ i ro2 ka2 ta2 sg2 H2, ws.length ≤ i → C ka2 → (∀ p ∈ ta', p ∈ ta2) → En K B F0 ro2 ka2 ta2 sg2 H2 → J.stop i H2) → R J H') → wi sg H R
section
variable {K : PySem.W.Frag} {B F F0 : Hp} {ro : Ro} {ka k1 k2 k3 kr : Cells} {ta : List (V × W)} {sg : L2.St} {H H' : Hp} {te tf tg tk tv : TE} {tr : TA} {tt tu : TT} {w x y z : W} {n m : Nd} {C dx a : Addr} {b : Bool} {P : L2.St → Hp → Prop} {De : Ends} {t u : TS} {E : XK}
theorem lc_at {wi : TI} {ws : List W} {C : Cells → Prop} {j : Nat} {vs : List Nat} {Q : VK} (e : En K B F0 ro ka ta sg H) (h : EvIat K B F0 wi ro ws C k1 ta sg H) (hj : j ∈ vs) (hn : ws.length ≤ 1000000) (Inv : Nat → List D → Cells → Prop) (h0 : Inv 0 [] k1) (hC : ∀ i acc k, Inv i acc k → C k ∧ ∀ x, C (k ++ [x]))
    (hs : ∀ i w acc k, ws[i]? = some w → Inv i acc k → (∃ k2, EvT K tt ((wipeR ro vs).set j (some w)) k false k2 ∧ Inv (i + 1) acc k2) ∨ ∃ k2 k3 d, EvT K tt ((wipeR ro vs).set j (some w)) k true k2 ∧ EvD K te ((wipeR ro vs).set j (some w)) k2 (.val d) k3 ∧ Inv (i + 1) (acc ++ [d]) k3)
    (q : ∀ n k a H', (∃ acc, n = .lst acc ∧ Inv ws.length acc k) → En K B F0 ro (k ++ [(a, n)]) ta sg H' → Q (.ref a) H') : tLc wi (gName j) tt te vs sg H Q :=
  h _ fun J ta' H1 hta e1 hgo hst => fun Dl hD => by
    -- the word: the list so far is the last cell
    let P : Nat → Hp → Prop := fun i H => ∃ acc k, Inv i acc k ∧ acc.length ≤ i ∧ En K B F0 ro (k ++ [(Dl, .lst acc)]) ta' sg H
    have p0 : P 0 (upd H1 Dl (.lst [])) := by
      obtain ⟨F, g, e1⟩ := e1
      exact ⟨[], k1, h0, Nat.le_refl _, F, g, e1.cell (o := .lst []) hD (n := .lst []) ⟨[], upd_same, rfl⟩⟩
    refine ⟨fun i m H => m = ws.length - i ∧ i ≤ ws.length ∧ P i H, ⟨ws.length, by simp, Nat.zero_le _, p0⟩, ?_⟩
    rintro i m H2 ⟨rfl, hi, acc, k, inv, hlen, e2⟩
    by_cases hlt : i < ws.length
    · have hw := List.getElem?_eq_getElem hlt
      obtain ⟨g1, g2⟩ := hgo i ws[i] ro (k ++ [(Dl, .lst acc)]) ta' sg H2 hw ((hC i acc k inv).2 _) (fun p hp => hp) e2
      refine .inr ⟨g1, P (i + 1), fun H' p => ⟨ws.length - (i + 1), by omega, rfl, hlt, p⟩, fun x H3 y => ?_⟩
      have e3 := g2 x H3 y
      refine ⟨wipe_set sg vs hj x, ?_⟩
      -- within the block
      have e4 : En K B F0 ((wipeR ro vs).set j (some ws[i])) (k ++ [(Dl, .lst acc)]) ta' ((wipe sg vs).set j (some x)) H3 := by
        obtain ⟨F, g, e3⟩ := e3
        exact ⟨F, g, ((wipe_en (vs := vs) e3).set (e3.tm _ List.mem_cons_self) j).held fun p hp => List.mem_cons_of_mem _ hp⟩
      -- and back out of it
      have out : ∀ {k : Cells} {ta2 : List (V × W)} {H : Hp}, (∃ F, Gr B F0 F ∧ EnF K B F ((wipeR ro vs).set j (some ws[i])) k ta2 ((wipe sg vs).set j (some x)) H ∧ ∀ (a : Nat) w, ro[a]? = some (some w) → ∃ v, sg[a]? = some (some v) ∧ WOk K B F v w) → En K B F0 ro k ta2 sg H := fun ⟨F, g, q, hs⟩ => ⟨F, g, q.frame (by obtain ⟨_, _, e0⟩ := e; exact e0.ln) hs⟩
      obtain ⟨F3, gF3, eF3⟩ := e3
      have slots : ∀ {F : Hp}, Gr B F3 F → ∀ (a : Nat) w, ro[a]? = some (some w) → ∃ v, sg[a]? = some (some v) ∧ WOk K B F v w := fun {F} g a w ha => by
        obtain ⟨v, h1, h2⟩ := eF3.sl a w ha
        exact ⟨v, h1, wok_gr eF3.nz g h2⟩
      have e4' : En K B F3 ((wipeR ro vs).set j (some ws[i])) (k ++ [(Dl, .lst acc)]) ta' ((wipe sg vs).set j (some x)) H3 :=
        ⟨F3, Gr.refl _ _, ((wipe_en (vs := vs) eF3).set (eF3.tm _ List.mem_cons_self) j).held fun p hp => List.mem_cons_of_mem _ hp⟩
      rcases hs i ws[i] acc k hw inv with ⟨k2, t1, inv2⟩ | ⟨k2, k3, d, t1, t2, inv2⟩
      · refine t1.fr [(Dl, .lst acc)] B F3 ta' _ H3 _ e4' fun H4 ⟨F4, g4, e5⟩ => ?_
        exact ⟨acc, k2, inv2, Nat.le_succ_of_le hlen, out ⟨F4, gF3.trans g4, e5, slots g4⟩⟩
      · refine t1.fr [(Dl, .lst acc)] B F3 ta' _ H3 _ e4' fun H4 e5 => ?_
        refine t2.fr [(Dl, .lst acc)] B F3 ta' _ H4 _ e5 fun v H5 ⟨F5, g5, e6⟩ => ?_
        have hx : (k3 ++ [(Dl, Nd.lst acc)])[k3.length]? = some (Dl, Nd.lst acc) := by simp
        obtain ⟨xs, h1, h2⟩ := e6.rd_lst hx
        have hv := e6.tm _ List.mem_cons_self
        have e7 := e6.write (o := .lst (xs ++ [v])) (n' := .lst (acc ++ [d])) hx ⟨_, upd_same, rpl_app h2 ⟨v, [], rfl, hv, rfl⟩⟩
        have hset : (k3 ++ [(Dl, Nd.lst acc)]).set k3.length (Dl, Nd.lst (acc ++ [d])) = k3 ++ [(Dl, Nd.lst (acc ++ [d]))] := by
          rw [List.set_append_right _ _ (Nat.le_refl _)]
          simp
        rw [hset] at e7
        refine ⟨xs, h1, by rw [rpl_len h2]; exact Nat.lt_of_le_of_lt (Nat.le_trans hlen (Nat.le_trans hi hn)) (by decide), acc ++ [d], k3, inv2, by rw [List.length_append]; exact Nat.succ_le_succ hlen, ?_⟩
        exact out ⟨F5, gF3.trans g5, e7.held fun p hp => List.mem_cons_of_mem _ hp, slots g5⟩
    · have ei : i = ws.length := by omega
      subst ei
      refine .inl ⟨hst _ ro (k ++ [(Dl, .lst acc)]) ta' sg H2 (Nat.le_refl _) ((hC _ acc k inv).2 _) (fun p hp => hp) e2, ?_⟩
      exact q _ _ Dl H2 ⟨acc, rfl, inv⟩ (e2.held hta)
theorem dc_at {wi : TI} {ws : List W} {C : Cells → Prop} {j : Nat} {vs : List Nat} {Q : VK} (e : En K B F0 ro ka ta sg H) (h : EvIat K B F0 wi ro ws C k1 ta sg H) (hj : j ∈ vs) (hn : ws.length ≤ 1000000) (Inv : Nat → List (Key × D) → Cells → Prop) (h0 : Inv 0 [] k1) (hC : ∀ i acc k, Inv i acc k → C k ∧ ∀ x, C (k ++ [x]))
    (hs : ∀ i w acc k, ws[i]? = some w → Inv i acc k → (∃ k2, EvT K tt ((wipeR ro vs).set j (some w)) k false k2 ∧ Inv (i + 1) acc k2) ∨ ∃ k2 k3 k4 c d, EvT K tt ((wipeR ro vs).set j (some w)) k true k2 ∧ EvD K tk ((wipeR ro vs).set j (some w)) k2 (.val (kD c)) k3 ∧ EvD K tv ((wipeR ro vs).set j (some w)) k3 (.val d) k4 ∧ Inv (i + 1) (putT acc c d) k4)
    (q : ∀ n k a H', (∃ acc, n = .dic acc ∧ Inv ws.length acc k) → En K B F0 ro (k ++ [(a, n)]) ta sg H' → Q (.ref a) H') : tDc wi (gName j) tt tk tv vs sg H Q :=
  h _ fun J ta' H1 hta e1 hgo hst => fun Dl hD => by
    let P : Nat → Hp → Prop := fun i H => ∃ acc k, Inv i acc k ∧ acc.length ≤ i ∧ En K B F0 ro (k ++ [(Dl, .dic acc)]) ta' sg H
    have p0 : P 0 (upd H1 Dl (.dK [])) := by
      obtain ⟨F, g, e1⟩ := e1
      exact ⟨[], k1, h0, Nat.le_refl _, F, g, e1.cell (o := .dK []) hD (n := .dic []) ⟨[], upd_same, rfl⟩⟩
    refine ⟨fun i m H => m = ws.length - i ∧ i ≤ ws.length ∧ P i H, ⟨ws.length, by simp, Nat.zero_le _, p0⟩, ?_⟩
    rintro i m H2 ⟨rfl, hi, acc, k, inv, hlen, e2⟩
    by_cases hlt : i < ws.length
    · have hw := List.getElem?_eq_getElem hlt
      obtain ⟨g1, g2⟩ := hgo i ws[i] ro (k ++ [(Dl, .dic acc)]) ta' sg H2 hw ((hC i acc k inv).2 _) (fun p hp => hp) e2
      refine .inr ⟨g1, P (i + 1), fun H' p => ⟨ws.length - (i + 1), by omega, rfl, hlt, p⟩, fun x H3 y => ?_⟩
      have e3 := g2 x H3 y
      refine ⟨wipe_set sg vs hj x, ?_⟩
      have out : ∀ {k : Cells} {ta2 : List (V × W)} {H : Hp}, (∃ F, Gr B F0 F ∧ EnF K B F ((wipeR ro vs).set j (some ws[i])) k ta2 ((wipe sg vs).set j (some x)) H ∧ ∀ (a : Nat) w, ro[a]? = some (some w) → ∃ v, sg[a]? = some (some v) ∧ WOk K B F v w) → En K B F0 ro k ta2 sg H := fun ⟨F, g, q, hs⟩ => ⟨F, g, q.frame (by obtain ⟨_, _, e0⟩ := e; exact e0.ln) hs⟩
      obtain ⟨F3, gF3, eF3⟩ := e3
      have slots : ∀ {F : Hp}, Gr B F3 F → ∀ (a : Nat) w, ro[a]? = some (some w) → ∃ v, sg[a]? = some (some v) ∧ WOk K B F v w := fun {F} g a w ha => by
        obtain ⟨v, h1, h2⟩ := eF3.sl a w ha
        exact ⟨v, h1, wok_gr eF3.nz g h2⟩
      have e4' : En K B F3 ((wipeR ro vs).set j (some ws[i])) (k ++ [(Dl, .dic acc)]) ta' ((wipe sg vs).set j (some x)) H3 :=
        ⟨F3, Gr.refl _ _, ((wipe_en (vs := vs) eF3).set (eF3.tm _ List.mem_cons_self) j).held fun p hp => List.mem_cons_of_mem _ hp⟩
      rcases hs i ws[i] acc k hw inv with ⟨k2, t1, inv2⟩ | ⟨k2, k3, k4, c, d, t1, t2, t3, inv2⟩
      · refine t1.fr [(Dl, .dic acc)] B F3 ta' _ H3 _ e4' fun H4 ⟨F4, g4, e5⟩ => ?_
        exact ⟨acc, k2, inv2, Nat.le_succ_of_le hlen, out ⟨F4, gF3.trans g4, e5, slots g4⟩⟩
      · refine t1.fr [(Dl, .dic acc)] B F3 ta' _ H3 _ e4' fun H4 e5 => ?_
        refine t2.fr [(Dl, .dic acc)] B F3 ta' _ H4 _ e5 fun u H5 e6 => ?_
        have hu := e6.tm_key (v := u) (k := c) List.mem_cons_self
        refine t3.fr [(Dl, .dic acc)] B F3 _ _ H5 _ e6 fun v H6 ⟨F5, g5, e7⟩ => ?_
        have hx : (k4 ++ [(Dl, Nd.dic acc)])[k4.length]? = some (Dl, Nd.dic acc) := by simp
        obtain ⟨xs, h1, h2⟩ := (e7.ce _ (List.mem_of_getElem? hx)).2.2
        have hv := e7.tm _ List.mem_cons_self
        have e8 := e7.write (o := .dK (putK xs c v)) (n' := .dic (putT acc c d)) hx ⟨_, upd_same, rpk_pt.mpr ((rpk_pt.mp h2).put c hv)⟩
        have hset : (k4 ++ [(Dl, Nd.dic acc)]).set k4.length (Dl, Nd.dic (putT acc c d)) = k4 ++ [(Dl, Nd.dic (putT acc c d))] := by
          rw [List.set_append_right _ _ (Nat.le_refl _)]
          simp
        rw [hset] at e8
        refine ⟨xs, c, hu, h1, by rw [(rpk_pt.mp h2).len]; exact Nat.lt_of_le_of_lt (Nat.le_trans hlen (Nat.le_trans hi hn)) (by decide), putT acc c d, k4, inv2, Nat.le_trans (putT_len _ _ _) (Nat.succ_le_succ hlen), ?_⟩
        exact out ⟨F5, gF3.trans g5, e8.held fun p hp => List.mem_cons_of_mem _ (List.mem_cons_of_mem _ hp), slots g5⟩
    · have ei : i = ws.length := by omega
      subst ei
      refine .inl ⟨hst _ ro (k ++ [(Dl, .dic acc)]) ta' sg H2 (Nat.le_refl _) ((hC _ acc k inv).2 _) (fun p hp => hp) e2, ?_⟩
      exact q _ _ Dl H2 ⟨acc, rfl, inv⟩ (e2.held hta)


theorem keys_of {ds : List (Key × D)} {xs : List (Key × V)} (h : RpK K F ds xs) : xs.map (·.1) = ds.map (·.1) := by
  induction ds generalizing xs with
  | nil => rw [show xs = [] from h]; rfl
  | cons p ds ih =>
    obtain ⟨k, d⟩ := p
    obtain ⟨x, ys, rfl, _, h2⟩ := h
    rw [List.map_cons, List.map_cons, ih h2]
/-- the keys of a locked dict, at one state -/
theorem ei_at {ds : List (Key × D)} {o : Obj} {xs : List (Key × V)} (e : En K B F0 ro ka ta sg H) (hB : B a = some (.frz o (.dK xs))) (hk : xs.map (·.1) = ds.map (·.1)) (hte : ∀ Q : VK, Q (.ref a) H → te sg H Q) :
    EvIat K B F0 (iKeys te) ro (ds.map fun kv => W.val (kD kv.1)) (fun _ => True) ka ta sg H := fun R q => hte _ ⟨a, o, rfl, .inl ⟨xs, (let ⟨_, _, ef⟩ := e; ef.fr _ _ hB), q _ ta H (fun p hp => hp) e (fun i w2 ro2 ka2 ta2 sg2 H2 hw _ _ e2 => by
    have hl : H2 a = some (.frz o (.dK xs)) := let ⟨_, _, ef⟩ := e2; ef.fr _ _ hB
    rw [List.getElem?_map] at hw
    obtain ⟨p, hp, rfl⟩ := Option.map_eq_some_iff.mp hw
    have h1 : (xs.map (·.1))[i]? = some p.1 := by rw [hk, List.getElem?_map, hp]; rfl
    rw [List.getElem?_map] at h1
    obtain ⟨y, hy, hy2⟩ := Option.map_eq_some_iff.mp h1
    refine ⟨⟨hl, (List.getElem?_eq_some_iff.mp hy).1⟩, fun x H3 ⟨e3, k, v, h2, h3⟩ => ?_⟩
    subst e3 h3
    rw [hy] at h2
    cases h2
    obtain ⟨pk, pd⟩ := p
    cases hy2
    exact e2.push_imm fun F => by cases k <;> rfl) fun i ro2 ka2 ta2 sg2 H2 hi _ _ e2 => by
    have hl : H2 a = some (.frz o (.dK xs)) := let ⟨_, _, ef⟩ := e2; ef.fr _ _ hB
    refine ⟨hl, ?_⟩
    have : xs.length = ds.length := by have := congrArg List.length hk; rwa [List.length_map, List.length_map] at this
    rw [this]
    rwa [List.length_map] at hi⟩⟩
theorem Gr.unB {B' F' : Hp} (h : Gr B' F F') (hs : ∀ c, B c ≠ none → B' c ≠ none) : Gr B F F' := ⟨h.sub, fun c h1 h2 => h.off c h1 (hs c h2)⟩
theorem upd_id {o : HO} (h : H a = some o) : upd H a o = H := by
  funext c
  unfold upd
  split
  · rename_i q; rw [q, h]
  · rfl
/-- a frozen dict is locked: what holds then, and the way back -/
theorem En.lockD {ds : List (Key × D)} (e : En K B F0 ro ka ta sg H) (hp : EvP K te ro (.val (.dic ds))) : ∃ (F : Hp) (a : Addr) (xs : List (Key × V)), Gr B F0 F ∧ F a = some (.dK xs) ∧ xs.map (·.1) = ds.map (·.1) ∧
    (H a = some (.dK xs) ∨ ∃ o, H a = some (.frz o (.dK xs))) ∧ (∀ y, B a = some y → H a = some y) ∧
    (∀ o, (∀ o', H a = some (.frz o' (.dK xs)) → o' = o) → En K (upd B a (.frz o (.dK xs))) F ro ka ta sg (upd H a (.frz o (.dK xs))) ∧ ∀ Q : VK, Q (.ref a) (upd H a (.frz o (.dK xs))) → te sg (upd H a (.frz o (.dK xs))) Q) := by
  obtain ⟨F, g, ef⟩ := e
  obtain ⟨v, h1, h2⟩ := hp B F ka ta sg H ef
  obtain ⟨a, xs, rfl, h3, h4⟩ := h1
  have hF : F a = some (.dK xs) := by
    rcases h3 with h3 | ⟨o, h3⟩
    · exact h3
    · have := ef.nz a _ h3; cases this
  have hH : H a = some (.dK xs) ∨ ∃ o, H a = some (.frz o (.dK xs)) := (ef.fz a _ hF).imp id fun z => z.2
  refine ⟨F, a, xs, g, hF, keys_of h4, hH, fun y hy => ef.fr _ _ hy, fun o ho => ?_⟩
  have hH2 : H a = some (.dK xs) ∨ H a = some (.frz o (.dK xs)) := hH.imp id fun ⟨o', z⟩ => by rw [← ho o' z]; exact z
  refine ⟨⟨F, Gr.refl _ _, ef.lockF hF rfl hH2⟩, fun Q q => h2 _ Q (fun c u hc hl => ?_) q⟩
  by_cases e : c = a
  · subst e
    rcases hH2 with z | z
    · rw [z] at hc; cases hc; cases hl
    · rw [z] at hc; cases hc; exact upd_same
  · rw [upd_ne e]; exact hc
theorem En.unlockD {o : Obj} {xs : List (Key × V)} {y : HO} (e : En K (upd B a (.frz o (.dK xs))) F ro ka ta sg H) (g : Gr B F0 F) (hF : F a = some (.dK xs)) (hx : y = .dK xs ∨ y = .frz o (.dK xs)) (hB : ∀ z, B a = some z → z = y) : En K B F0 ro ka ta sg (upd H a y) := by
  obtain ⟨F2, g2, ef⟩ := e
  have g3 : Gr B F F2 := Gr.unB g2 fun c hc => by
    by_cases e : c = a
    · subst e; rw [upd_same]; exact fun z => by cases z
    · rw [upd_ne e]; exact hc
  exact ⟨F2, g.trans g3, ef.unlockF (g2.sub _ _ hF) rfl hx hB⟩
/-- for k in d, d frozen -/
theorem g_forK {ds : List (Key × D)} {g : TG} {tb : TS} (hp : EvP K te ro (.val (.dic ds))) (Inv : Nat → Ro → Cells → Prop) (InvB : Ro → Cells → Prop) (h0 : Inv 0 ro ka)
    (hs : ∀ B' F1 rt' bk' ta', (∀ out, RtOk K B F0 out De.rt → RtOk K B' F1 out rt') → (∀ ro2 ka2, InvB ro2 ka2 → Gp K B' F1 ta' bk' ro2 ka2) → ∀ i kv ro2 ka2, ds[i]? = some kv → Inv i ro2 ka2 → ∃ ro3, AsT K g (.val (kD kv.1)) ro2 ro3 ∧
      Gp K B' F1 ta' (tb ⟨Jp K B' F1 ta' (Inv (i + 1)), rt', bk', Jp K B' F1 ta' (Inv (i + 1))⟩) ro3 ka2)
    (hd : ∀ ro2 ka2, (Inv ds.length ro2 ka2 ∨ InvB ro2 ka2) → Gp K B F0 ta De.nx ro2 ka2) : Gp K B F0 ta (tLkS (tFor (iKeys te) g tb) De) ro ka := fun sg H e => by
  obtain ⟨F, a, xs, gr, hF, hk, hH, hBH, lock⟩ := e.lockD hp
  -- the loop itself, between the lock and the way back
  have core : ∀ (o : Obj) (y : HO) (De' : Ends), (∀ o', H a = some (.frz o' (.dK xs)) → o' = o) → (y = .dK xs ∨ y = .frz o (.dK xs)) → (∀ z, B a = some z → z = y) →
      (∀ sg' H', H' a = some (.frz o (.dK xs)) → De.nx sg' (upd H' a y) → De'.nx sg' H') → (∀ v H', H' a = some (.frz o (.dK xs)) → De.rt v (upd H' a y) → De'.rt v H') → tFor (iKeys te) g tb De' sg (upd H a (.frz o (.dK xs))) := by
    intro o y De' ho hy hBy hnx hrt
    obtain ⟨e1, hte⟩ := lock o ho
    have hB1 : upd B a (.frz o (.dK xs)) a = some (.frz o (.dK xs)) := upd_same
    have fin : ∀ ro2 ka2 sg2 H2, (Inv ds.length ro2 ka2 ∨ InvB ro2 ka2) → En K (upd B a (.frz o (.dK xs))) F ro2 ka2 ta sg2 H2 → De'.nx sg2 H2 := fun ro2 ka2 sg2 H2 i e2 =>
      hnx sg2 H2 (let ⟨_, _, ef⟩ := e2; ef.fr _ _ hB1) (hd ro2 ka2 i _ _ (e2.unlockD gr hF hy hBy))
    have rt' : ∀ out, RtOk K B F0 out De.rt → RtOk K (upd B a (.frz o (.dK xs))) F out De'.rt := fun out h d ka v H' o' e2 =>
      hrt v H' (let ⟨_, _, ef⟩ := e2; ef.fr _ _ hB1) (h d ka v _ o' (e2.unlockD gr hF hy hBy))
    refine ei_at (ds := ds) e1 hB1 hk hte _ fun J ta' H1 hta e2 hgo hst => ?_
    refine ⟨fun i m sg H => m = ds.length - i ∧ i ≤ ds.length ∧ Jp K (upd B a (.frz o (.dK xs))) F ta' (Inv i) sg H, ⟨ds.length, by simp, Nat.zero_le _, ro, ka, h0, e2⟩, ?_⟩
    rintro i m sg2 H2 ⟨rfl, hi, ro2, ka2, inv, e3⟩
    by_cases hlt : i < ds.length
    · have hw : (ds.map fun kv => W.val (kD kv.1))[i]? = some (W.val (kD ds[i].1)) := by rw [List.getElem?_map, List.getElem?_eq_getElem hlt]; rfl
      obtain ⟨g1, g2⟩ := hgo i _ ro2 ka2 ta' sg2 H2 hw trivial (fun p hp => hp) e3
      refine .inr ⟨g1, Jp K (upd B a (.frz o (.dK xs))) F ta' (Inv (i + 1)), fun sg' H' q => ⟨ds.length - (i + 1), by omega, rfl, hlt, q⟩, fun x H3 y3 => ?_⟩
      have e4 := g2 x H3 y3
      obtain ⟨ro3, ast, gp⟩ := hs _ F De'.rt De'.nx ta' rt' (fun ro4 ka4 ib sg4 H4 e5 => fin ro4 ka4 sg4 H4 (.inr ib) (e5.held hta)) i ds[i] ro2 ka2 (List.getElem?_eq_getElem hlt) inv
      exact ast _ F ka2 _ sg2 H3 x _ e4 List.mem_cons_self fun sg' e' => gp _ _ e'.pop
    · have ei : i = ds.length := by omega
      subst ei
      exact .inl ⟨hst _ ro2 ka2 ta' sg2 H2 (by rw [List.length_map]; exact Nat.le_refl _) trivial (fun p hp => hp) e3, fin ro2 ka2 sg2 H2 (.inl inv) (e3.held hta)⟩
  rcases hH with hH | ⟨o, hH⟩
  · refine .inr ⟨a, .dK xs, hH, trivial, fun o => ?_⟩
    exact core o (.dK xs) _ (fun o' z => by rw [hH] at z; cases z) (.inl rfl) (fun z hz => by have := hBH z hz; rw [hH] at this; cases this; rfl) (fun sg' H' h1 h2 => ⟨h1, h2⟩) fun v H' h1 h2 => ⟨h1, h2⟩
  · refine .inl ?_
    have := core o (.frz o (.dK xs)) De (fun o' z => by rw [hH] at z; cases z; rfl) (.inr rfl) (fun z hz => by have := hBH z hz; rw [hH] at this; cases this; rfl) (fun sg' H' h1 h2 => by rwa [upd_id h1] at h2) fun v H' h1 h2 => by rwa [upd_id h1] at h2
    rwa [upd_id hH] at this

theorem q_forK {ds : List (Key × D)} {g : TG} {tb : TS} (hp : EvP K te ro (.val (.dic ds))) (Inv : Nat → Ro → Cells → Prop) (InvB : Ro → Cells → Prop) (h0 : Inv 0 ro ka)
    (hs : ∀ B' F1 rt' bk' ta', (∀ out, RtOk K B F0 out De.rt → RtOk K B' F1 out rt') → (∀ ro2 ka2, InvB ro2 ka2 → Gp K B' F1 ta' bk' ro2 ka2) → ∀ i kv ro2 ka2, ds[i]? = some kv → Inv i ro2 ka2 → ∃ ro3, AsT K g (.val (kD kv.1)) ro2 ro3 ∧
      Gp K B' F1 ta' (tb ⟨Jp K B' F1 ta' (Inv (i + 1)), rt', bk', Jp K B' F1 ta' (Inv (i + 1))⟩) ro3 ka2)
    (hd : ∀ ro2 ka2, (Inv ds.length ro2 ka2 ∨ InvB ro2 ka2) → Gp K B F0 ta (u De) ro2 ka2) : Gp K B F0 ta (tSeq (tLkS (tFor (iKeys te) g tb)) u De) ro ka := g_forK (De := { De with nx := u De }) hp Inv InvB h0 hs hd
/-- what is made while a frozen dict is locked -/
theorem lkE_of {ds : List (Key × D)} {Q : VK} {t2 : TE} {R : Nd → Cells → Prop} (e : En K B F0 ro ka ta sg H) (hp : EvP K te ro (.val (.dic ds)))
    (h : ∀ (B' F1 H1 : Hp) (Q' : VK), En K B' F1 ro ka ta sg H1 → EvIat K B' F1 (iKeys te) ro (ds.map fun kv => W.val (kD kv.1)) (fun _ => True) ka ta sg H1 →
      (∀ n k a H', R n k → En K B' F1 ro (k ++ [(a, n)]) ta sg H' → Q' (.ref a) H') → t2 sg H1 Q')
    (q : ∀ n k a H', R n k → En K B F0 ro (k ++ [(a, n)]) ta sg H' → Q (.ref a) H') : tLkE t2 sg H Q := by
  obtain ⟨F, a, xs, gr, hF, hk, hH, hBH, lock⟩ := e.lockD hp
  rcases hH with hH | ⟨o, hH⟩
  · refine .inr ⟨a, .dK xs, hH, trivial, fun o => ?_⟩
    obtain ⟨e1, hte⟩ := lock o fun o' z => by rw [hH] at z; cases z
    refine h _ F _ _ e1 (ei_at (ds := ds) e1 upd_same hk hte) fun n k a' H' r e2 => ?_
    exact ⟨let ⟨_, _, ef⟩ := e2; ef.fr _ _ upd_same, q n k a' _ r (e2.unlockD gr hF (.inl rfl) fun z hz => by have := hBH z hz; rw [hH] at this; cases this; rfl)⟩
  · obtain ⟨e1, hte⟩ := lock o fun o' z => by rw [hH] at z; cases z; rfl
    refine .inl ?_
    have := h _ F _ Q e1 (ei_at (ds := ds) e1 upd_same hk hte) fun n k a' H' r e2 => by
      have e3 := e2.unlockD gr hF (.inr rfl) fun z hz => by have := hBH z hz; rw [hH] at this; cases this; rfl
      have at_ : H' a = some (.frz o (.dK xs)) := let ⟨_, _, ef⟩ := e2; ef.fr _ _ upd_same
      rw [upd_id at_] at e3
      exact q n k a' H' r e3
    rwa [upd_id hH] at this
/-- [e for k in d if ..], d frozen -/
theorem evr_lcK {ds : List (Key × D)} {j : Nat} {vs : List Nat} (hp : EvP K tg ro (.val (.dic ds))) (hj : j ∈ vs) (hn : ds.length ≤ 1000000) (Inv : Nat → List D → Cells → Prop) (h0 : Inv 0 [] ka)
    (hs : ∀ (i : Nat) (kv : Key × D) acc k, ds[i]? = some kv → Inv i acc k → (∃ k2, EvT K tt ((wipeR ro vs).set j (some (.val (kD kv.1)))) k false k2 ∧ Inv (i + 1) acc k2) ∨ ∃ k2 k3 d, EvT K tt ((wipeR ro vs).set j (some (.val (kD kv.1)))) k true k2 ∧ EvD K te ((wipeR ro vs).set j (some (.val (kD kv.1)))) k2 (.val d) k3 ∧ Inv (i + 1) (acc ++ [d]) k3)
    : EvNR K (tLkE (tLc (iKeys tg) (gName j) tt te vs)) ro ka (fun n k => ∃ acc, n = .lst acc ∧ Inv ds.length acc k) := fun B F0 ta sg H Q e q =>
  lkE_of (R := fun n k => ∃ acc, n = .lst acc ∧ Inv ds.length acc k) e hp (fun B' F1 H1 Q' e1 it q' => lc_at e1 it hj (by rw [List.length_map]; exact hn) Inv h0 (fun _ _ _ _ => ⟨trivial, fun _ => trivial⟩) (fun i w acc k hw inv => by
    rw [List.getElem?_map] at hw
    obtain ⟨kv, hkv, rfl⟩ := Option.map_eq_some_iff.mp hw
    exact hs i kv acc k hkv inv) fun n k a H' r e2 => q' n k a H' (by rw [List.length_map] at r; exact r) e2) q
/-- {k: v for x in d if ..}, d frozen -/
theorem evr_dcK {ds : List (Key × D)} {j : Nat} {vs : List Nat} (hp : EvP K tg ro (.val (.dic ds))) (hj : j ∈ vs) (hn : ds.length ≤ 1000000) (Inv : Nat → List (Key × D) → Cells → Prop) (h0 : Inv 0 [] ka)
    (hs : ∀ (i : Nat) (kv : Key × D) acc k, ds[i]? = some kv → Inv i acc k → (∃ k2, EvT K tt ((wipeR ro vs).set j (some (.val (kD kv.1)))) k false k2 ∧ Inv (i + 1) acc k2) ∨ ∃ k2 k3 k4 c d, EvT K tt ((wipeR ro vs).set j (some (.val (kD kv.1)))) k true k2 ∧ EvD K tk ((wipeR ro vs).set j (some (.val (kD kv.1)))) k2 (.val (kD c)) k3 ∧ EvD K tv ((wipeR ro vs).set j (some (.val (kD kv.1)))) k3 (.val d) k4 ∧ Inv (i + 1) (putT acc c d) k4)
    : EvNR K (tLkE (tDc (iKeys tg) (gName j) tt tk tv vs)) ro ka (fun n k => ∃ acc, n = .dic acc ∧ Inv ds.length acc k) := fun B F0 ta sg H Q e q =>
  lkE_of (R := fun n k => ∃ acc, n = .dic acc ∧ Inv ds.length acc k) e hp (fun B' F1 H1 Q' e1 it q' => dc_at e1 it hj (by rw [List.length_map]; exact hn) Inv h0 (fun _ _ _ _ => ⟨trivial, fun _ => trivial⟩) (fun i w acc k hw inv => by
    rw [List.getElem?_map] at hw
    obtain ⟨kv, hkv, rfl⟩ := Option.map_eq_some_iff.mp hw
    exact hs i kv acc k hkv inv) fun n k a H' r e2 => q' n k a H' (by rw [List.length_map] at r; exact r) e2) q
end
end DL

/-! EC: defaults, objects with cells in their fields, more of dicts (own work). -/
namespace DL
open PySem L2 PySem.W

/-! ### defaults -/
/-- the def at f keeps C, its defaults written out; dvs: its defaults -/
def FnD (P : Program) (w : World) (K : PySem.W.Frag) (mg : Str → Option Value) (base : Heap) (k : Nat) (f : Addr) (ps : List Str) (dvs : List V) (C : Ct) : Prop :=
  ∃ fd, FnOk P w K mg base (L2.CX P w) k f fd ps (spC K C) ∧ ∃ ds, Vals dvs ds ∧ Binds K fd ps ds
section
variable {P : Program} {w : World} {K : PySem.W.Frag} {mg : Str → Option Value} {base : Heap} {k j : Nat} {f : Addr} {ps : List Str} {dvs : List V} {C : Ct}
noncomputable def FnD.fd (F : FnD P w K mg base k f ps dvs C) : FuncData := Classical.choose F
theorem FnD.ok (F : FnD P w K mg base k f ps dvs C) : FnOk P w K mg base (L2.CX P w) k f F.fd ps (spC K C) := (Classical.choose_spec F).1
noncomputable def FnD.ds (F : FnD P w K mg base k f ps dvs C) : List Value := Classical.choose (Classical.choose_spec F).2
theorem FnD.dv (F : FnD P w K mg base k f ps dvs C) : Vals dvs F.ds := (Classical.choose_spec (Classical.choose_spec F).2).1
theorem FnD.bn (F : FnD P w K mg base k f ps dvs C) : Binds K F.fd ps F.ds := (Classical.choose_spec (Classical.choose_spec F).2).2
theorem FnD.up (F : FnD P w K mg base j f ps dvs C) (h : j ≤ k) : FnD P w K mg base k f ps dvs C := let ⟨fd, a, b⟩ := F; ⟨fd, a.mono h, b⟩
end
/-- what stands for the defaults -/
def DvOk (K : PySem.W.Frag) (dvs : List V) (wd : List W) : Prop := dvs.length = wd.length ∧ ∀ B F p, p ∈ dvs.zip wd → WOk K B F p.1 p.2
theorem dv_nil {K : PySem.W.Frag} : DvOk K [] [] := ⟨rfl, fun _ _ _ h => by cases h⟩
theorem dv_cons {K : PySem.W.Frag} {v : V} {w : W} {dvs : List V} {wd : List W} (h : ∀ B F, WOk K B F v w) (r : DvOk K dvs wd) : DvOk K (v :: dvs) (w :: wd) := ⟨by rw [List.length_cons, List.length_cons, r.1], fun B F p hp => by
  rcases List.mem_cons.mp hp with rfl | hp
  · exact h B F
  · exact r.2 B F p hp⟩
section
variable {K : PySem.W.Frag} {B B' F F' F0 : Hp} {ro ro' : Ro} {ka k1 k2 k3 kr : Cells} {ta : List (V × W)} {sg sg' : L2.St} {H H' : Hp} {te tf tg td ty tk tv : TE} {tr : TA} {tt tu : TT} {w x y z : W} {n m : Nd} {C dx a o d : Addr} {b : Bool} {P : W → Cells → Prop} {De : Ends} {u : TS}
theorem En.more (e : En K B F0 ro ka ta sg H) {dvs : List V} {wd : List W} (h : DvOk K dvs wd) : En K B F0 ro ka (dvs.zip wd ++ ta) sg H := by
  obtain ⟨F, g, e⟩ := e
  refine ⟨F, g, { e with tm := fun p hp => ?_ }⟩
  rcases List.mem_append.mp hp with q | q
  · exact h.2 B F p q
  · exact e.tm p q
/-- C(e, ..), told by a word: __init__ may make more cells -/
theorem evr_make {Cc : Ct} {ws wd : List W} {dvs : List V} {E : XK} (ha : EvA K tr ro ka ws k1) (hd : DvOk K dvs wd)
    (hC : ∀ a, ∃ out, Cc (.val (.adr a) :: (ws ++ wd)) (k1 ++ [(a, .ins C [])]) out ∧ ∀ o k, out o k → o = .ret .non ∧ P (.val (.adr a)) k) : EvR K (tMake C (spC K Cc) dvs E tr) ro ka P := fun B F0 ta sg H Q e q =>
  ha B F0 ta sg H _ e fun vs H1 hl e1 => by
    intro x dx hx hdx hne
    obtain ⟨F, g, e1⟩ := e1
    obtain ⟨e2, g2⟩ := e1.lay (o := .own x) hdx rfl
    have hx2 : upd H1 dx (.own x) x = none := by rw [upd_ne (Ne.symm hne)]; exact hx
    have e3 := e2.cell (o := .ins C dx []) hx2 (n := .ins C []) ⟨dx, [], upd_same, rfl⟩
    obtain ⟨out, hC, ho⟩ := hC x
    have e4 : En K B F0 ro ((k1 ++ [(x, .ins C [])]) ++ []) (dvs.zip wd ++ (vs.zip ws ++ ta)) sg (upd (upd H1 dx (.own x)) x (.ins C dx [])) := by
      rw [List.append_nil]
      exact En.more ⟨_, g.trans g2, e3⟩ hd
    have hlen : (V.ref x :: (vs ++ dvs)).length = (W.val (.adr x) :: (ws ++ wd)).length := by rw [List.length_cons, List.length_cons, List.length_append, List.length_append, hl, hd.1]
    have hz : (V.ref x :: (vs ++ dvs)).zip (W.val (.adr x) :: (ws ++ wd)) = (V.ref x, W.val (.adr x)) :: (vs.zip ws ++ dvs.zip wd) := by rw [List.zip_cons_cons, List.zip_append hl]
    have e5 : En K B F0 ro ((k1 ++ [(x, .ins C [])]) ++ []) ((V.ref x :: (vs ++ dvs)).zip (W.val (.adr x) :: (ws ++ wd)) ++ ta) sg (upd (upd H1 dx (.own x)) x (.ins C dx [])) := by
      rw [hz]
      refine (e4.push_imm (v := .ref x) (w := .val (.adr x)) fun _ => rfl).held fun p hp => ?_
      rcases List.mem_cons.mp hp with rfl | hp
      · exact List.mem_cons_self
      · refine List.mem_cons_of_mem _ ?_
        rcases List.mem_append.mp hp with hp | hp
        · rcases List.mem_append.mp hp with hp | hp
          · exact List.mem_append_right _ (List.mem_append_left _ hp)
          · exact List.mem_append_left _ hp
        · exact List.mem_append_right _ (List.mem_append_right _ hp)
    refine sp_rel (kr := []) e5 hlen hC (fun o k h => ⟨_, (ho o k h).1⟩) fun d k2 v H' o e6 => ?_
    obtain ⟨he, p⟩ := ho _ _ o
    cases he
    rw [List.append_nil] at e6
    exact ⟨e6.tm_non List.mem_cons_self, q _ _ (.ref x) H' p (e6.pop.push_imm fun _ => rfl)⟩
theorem evr_ifT (h : EvT K tt ro ka true k1) (h1 : EvR K te ro k1 P) : EvR K (tIf tt te tf) ro ka P := fun B F0 ta sg H Q e q => h B F0 ta sg H _ e fun H1 e1 => h1 B F0 ta sg H1 Q e1 q
theorem evr_ifF (h : EvT K tt ro ka false k1) (h1 : EvR K tf ro k1 P) : EvR K (tIf tt te tf) ro ka P := fun B F0 ta sg H Q e q => h B F0 ta sg H _ e fun H1 e1 => h1 B F0 ta sg H1 Q e1 q
/-- o.f = e, e told by a word -/
theorem g_fldR {f : Str} (hv : EvR K tf ro ka P) (c : Cls K C) (nf : NoAttr K C f)
    (k : ∀ w k1, P w k1 → ∃ d k2 j fs, w = .val d ∧ EvD K te ro k1 (.val (.adr a)) k2 ∧ k2[j]? = some (a, .ins C fs) ∧ fs.length < 900 ∧ Gp K B F0 ta De.nx ro (k2.set j (a, .ins C (putD f d fs)))) : Gp K B F0 ta (sFld K te tf f De) ro ka := fun sg H e =>
  hv B F0 ta sg H _ e fun w k1 v H1 p e1 => by
    obtain ⟨d, k2, j, fs, rfl, ho, hj, hz, hk⟩ := k w k1 p
    refine ho B F0 _ sg H1 _ e1 fun x H2 e2 => ?_
    have hx := e2.tm_adr (v := x) (a := a) List.mem_cons_self
    subst hx
    obtain ⟨F, g, ef⟩ := e2
    obtain ⟨_, _, dx, xs, hH, rx⟩ := ef.ce _ (List.mem_of_getElem? hj)
    have vd := ef.tm (v, .val d) (List.mem_cons_of_mem _ List.mem_cons_self)
    have room : xs.length < 900 := by rw [rpf_len rx]; exact hz
    exact ⟨_, C, dx, xs, rfl, hH, c, nf, Nat.lt_trans room (by decide), hk _ _ ⟨F, g, (ef.write (o := .ins C dx (putF f v xs)) (n' := .ins C (putD f d fs)) hj ⟨dx, _, upd_same, rpf_put vd rx⟩).held fun p hp => List.mem_cons_of_mem _ (List.mem_cons_of_mem _ hp)⟩⟩
theorem q_fldR {f : Str} (hv : EvR K tf ro ka P) (c : Cls K C) (nf : NoAttr K C f)
    (k : ∀ w k1, P w k1 → ∃ d k2 j fs, w = .val d ∧ EvD K te ro k1 (.val (.adr a)) k2 ∧ k2[j]? = some (a, .ins C fs) ∧ fs.length < 900 ∧ Gp K B F0 ta (u De) ro (k2.set j (a, .ins C (putD f d fs)))) : Gp K B F0 ta (tSeq (sFld K te tf f) u De) ro ka := g_fldR (De := { De with nx := u De }) hv c nf k

/-! ### cells in fields, filled in -/
/-- what stands at a field, said otherwise -/
theorem rpf_fill {G : Hp} {x y : D} (h : ∀ u, Rp K G x u → Rp K G y u) {f : Str} : ∀ {fs : List (Str × D)} {r : List (Str × D)} {xs : List (Str × V)}, RpF K G (fs ++ (f, x) :: r) xs → RpF K G (fs ++ (f, y) :: r) xs
  | [], _, _, ⟨v, l, e, p, q⟩ => ⟨v, l, e, h v p, q⟩
  | _ :: _, _, _, ⟨v, l, e, p, q⟩ => ⟨v, l, e, p, rpf_fill h q⟩
/-- a field that holds the cell o, which is frozen by now -/
theorem En.fill {v : D} {f : Str} {j : Nat} {fs r : List (Str × D)} (e : En K B F0 ro ka ta sg H) (ho : (V.ref o, W.val v) ∈ ta) (hj : ka[j]? = some (a, .ins C (fs ++ (f, .adr o) :: r))) : En K B F0 ro (ka.set j (a, .ins C (fs ++ (f, v) :: r))) ta sg H := by
  obtain ⟨F, g, e⟩ := e
  have hv := e.tm _ ho
  refine ⟨F, g, { e with nd := ?_, ce := fun p hp => ?_ }⟩
  · rw [List.map_set]
    have same : (ka.map (·.1)).set j a = ka.map (·.1) := List.ext_getElem? fun i => by
      by_cases hij : j = i
      · subst hij
        rw [List.getElem?_set_self (by rw [List.length_map]; exact (List.getElem?_eq_some_iff.mp hj).1), List.getElem?_map, hj]
        rfl
      · rw [List.getElem?_set_ne hij]
    exact same.symm ▸ e.nd
  · rcases List.mem_or_eq_of_mem_set hp with q | rfl
    · exact e.ce p q
    · obtain ⟨h1, h2, dx, xs, h3, h4⟩ := e.ce _ (List.mem_of_getElem? hj)
      exact ⟨h1, h2, dx, xs, h3, rpf_fill (fun u hu => by rw [show u = .ref o from hu]; exact hv) h4⟩
end

section
variable {K : PySem.W.Frag} {B B' F F' F0 : Hp} {ro ro' : Ro} {ka k1 k2 k3 kr : Cells} {ta : List (V × W)} {sg sg' : L2.St} {H H' : Hp} {te tf tg td ty tk tv : TE} {tr : TA} {tt tu : TT} {w x y z : W} {n m : Nd} {C dx a o d : Addr} {b : Bool} {P : L2.St → Hp → Prop} {De : Ends} {u : TS}
/-- what a slot holds, said otherwise -/
theorem En.reslot {i : Nat} {v : D} (e : En K B F0 ro ka ta sg H) (hi : ro[i]? = some (some (.val (.adr a)))) (hv : (V.ref a, W.val v) ∈ ta) : En K B F0 (ro.set i (some (.val v))) ka ta sg H := by
  obtain ⟨F, g, e⟩ := e
  refine ⟨F, g, { e with ln := by rw [List.length_set]; exact e.ln, sl := fun j w q => ?_ }⟩
  rw [List.getElem?_set] at q
  split at q
  · rename_i hij
    subst hij
    split at q
    · cases q
      obtain ⟨x, h1, h2⟩ := e.sl _ _ hi
      obtain rfl : x = V.ref a := h2
      exact ⟨_, h1, e.tm _ hv⟩
    · cases q
  · exact e.sl j w q
/-- an own dict, frozen -/
theorem Gp.frzK {i : Nat} {ds : List (Key × D)} (hi : ro[i]? = some (some (.val (.adr a)))) (hp : (kr ++ [(a, Nd.dic ds)]).Perm ka) (h : Gp K B F0 ta P (ro.set i (some (.val (.dic ds)))) kr) : Gp K B F0 ta P ro ka := fun sg H e =>
  h sg H ((En.reslot (e.perm hp).freeze_k hi List.mem_cons_self).held fun p q => List.mem_cons_of_mem _ q)
/-- an object whose fields hold an own list and an own dict, frozen as a whole -/
theorem Gp.frzN {i : Nat} {f g : Str} {xs : List D} {ds : List (Key × D)} (hi : ro[i]? = some (some (.val (.adr a)))) (hp : (kr ++ [(a, Nd.ins C [(f, .adr o), (g, .adr d)]), (o, Nd.lst xs), (d, Nd.dic ds)]).Perm ka)
    (h : Gp K B F0 ta P (ro.set i (some (.val (.ins C [(f, .lst xs), (g, .dic ds)])))) kr) : Gp K B F0 ta P ro ka := fun sg H e => by
  have e0 : En K B F0 ro ((kr ++ [(a, Nd.ins C [(f, .adr o), (g, .adr d)]), (o, Nd.lst xs)]) ++ [(d, Nd.dic ds)]) ta sg H := by
    have := e.perm hp
    rwa [List.append_assoc]
  have e1 := e0.freeze_k
  have e2 := e1.fill (v := .dic ds) (f := g) (j := kr.length) (a := a) (C := C) (fs := [(f, .adr o)]) (r := []) List.mem_cons_self (by simp)
  have e3 : En K B F0 ro ((kr ++ [(a, Nd.ins C [(f, .adr o), (g, .dic ds)])]) ++ [(o, Nd.lst xs)]) ((V.ref d, W.val (.dic ds)) :: ta) sg H := by
    rw [List.set_append_right _ _ (Nat.le_refl _), Nat.sub_self] at e2
    rwa [List.append_assoc]
  have e4 := e3.freeze_l
  have e5 := e4.fill (v := .lst xs) (f := f) (j := kr.length) (a := a) (C := C) (fs := []) (r := [(g, .dic ds)]) List.mem_cons_self (by simp)
  rw [List.set_append_right _ _ (Nat.le_refl _), Nat.sub_self] at e5
  have e6 : En K B F0 ro kr _ sg H := En.freeze_i e5
  exact h sg H ((En.reslot e6 hi List.mem_cons_self).held fun p q => List.mem_cons_of_mem _ (List.mem_cons_of_mem _ (List.mem_cons_of_mem _ q)))
/-- a new value, its object with fields frozen as a whole -/
theorem EvR.frzN {f g : Str} {xs : List D} {ds : List (Key × D)} {R : W → Cells → Prop} (h : EvR K te ro ka R) (hR : ∀ w k, R w k → ∃ a o d, w = .val (.adr a) ∧ k = k1 ++ [(a, Nd.ins C [(f, .adr o), (g, .adr d)]), (o, Nd.lst xs), (d, Nd.dic ds)]) : EvD K te ro ka (.val (.ins C [(f, .lst xs), (g, .dic ds)])) k1 := fun B F0 ta sg H Q e q =>
  h B F0 ta sg H Q e fun w k v H' p e1 => by
    obtain ⟨a, o, d, rfl, rfl⟩ := hR w k p
    have hv := e1.tm_adr (v := v) (a := a) List.mem_cons_self
    subst hv
    have e0 : En K B F0 ro ((k1 ++ [(a, Nd.ins C [(f, .adr o), (g, .adr d)]), (o, Nd.lst xs)]) ++ [(d, Nd.dic ds)]) ta sg H' := by
      have := e1.pop
      rwa [List.append_assoc]
    have e2 := e0.freeze_k.fill (v := .dic ds) (f := g) (j := k1.length) (a := a) (C := C) (fs := [(f, .adr o)]) (r := []) List.mem_cons_self (by simp)
    have e3 : En K B F0 ro ((k1 ++ [(a, Nd.ins C [(f, .adr o), (g, .dic ds)])]) ++ [(o, Nd.lst xs)]) ((V.ref d, W.val (.dic ds)) :: ta) sg H' := by
      rw [List.set_append_right _ _ (Nat.le_refl _), Nat.sub_self] at e2
      rwa [List.append_assoc]
    have e5 := e3.freeze_l.fill (v := .lst xs) (f := f) (j := k1.length) (a := a) (C := C) (fs := []) (r := [(g, .dic ds)]) List.mem_cons_self (by simp)
    rw [List.set_append_right _ _ (Nat.le_refl _), Nat.sub_self] at e5
    exact q _ _ ((En.freeze_i e5).held fun p hp => by
      rcases List.mem_cons.mp hp with rfl | hp
      · exact List.mem_cons_self
      · exact List.mem_cons_of_mem _ (List.mem_cons_of_mem _ (List.mem_cons_of_mem _ hp)))

/-! ### len of a dict, d.update(..), xs.clear() -/
def rLenD : List V → Hp → VK → Prop := fun xs H Q => ∃ a kvs, xs = [V.ref a] ∧ Rd H a (.dK kvs) ∧ Q (.int kvs.length) H
theorem cr_lenD {X : Cx} : CallR X (.builtin "len") rLenD := fun pins s σ H xs us Q I rv ⟨a, kvs, e, rd, q⟩ => by
  subst e
  obtain ⟨v, rfl, rx⟩ := vals1 rv
  obtain rfl : v = Value.ref a := rx
  exact d_len I rd fun t _ I' => ⟨.int kvs.length, H, I', ⟨t, rfl⟩, q⟩
def rLenV (K : PySem.W.Frag) : List V → Hp → VK → Prop := fun xs H Q => rLenU K xs H Q ∨ rLenD xs H Q
theorem call_lenV {X : Cx} : CallR X (.builtin "len") (rLenV X.K) := fun pins s σ H xs us Q I rv h => h.elim (call_lenU pins s σ H xs us Q I rv) (cr_lenD pins s σ H xs us Q I rv)
theorem ev_lenD {ds : List (Key × D)} (h : EvD K te ro ka w k1) (l : Dk k1 w ds b) : EvD K (tCB rLenD (tCons te tNil)) ro ka (.val (.int ds.length)) k1 := fun B F0 ta sg H Q e q => h B F0 ta sg H _ e fun v H1 e1 => by
  obtain ⟨F, a, xs, g, ef, rfl, h3, h4⟩ := e1.dk l List.mem_cons_self
  have hl : xs.length = ds.length := (rpk_pt.mp h4).len
  exact ⟨a, xs, rfl, h3, hl ▸ q _ _ (e1.pop.push_imm fun _ => rfl)⟩
def mergeT (ds ms : List (Key × D)) : List (Key × D) := ms.foldl (fun acc p => putT acc p.1 p.2) ds
theorem pt_merge {R : D → V → Prop} : ∀ {ms : List (Key × D)} {ys : List (Key × V)} {ds : List (Key × D)} {xs : List (Key × V)}, PT R ms ys → PT R ds xs → PT R (mergeT ds ms) (mergeK xs ys)
  | [], ys, _, _, h, g => by
    obtain rfl : ys = [] := h
    exact g
  | (k, d) :: ms, ys0, ds, xs, h, g => by
    obtain ⟨v, ys, e, p, q⟩ := h
    rw [e]
    have r : PT R (mergeT (putT ds k d) ms) (mergeK (putT xs k v) ys) := pt_merge q (g.put k p)
    exact r
def rDUpd : V → List V → Hp → VK → Prop := fun x vs H Q => ∃ (a b : Addr) (xs ys : List (Key × V)), x = .ref a ∧ vs = [.ref b] ∧ a ≠ b ∧ H a = some (.dK xs) ∧ Rd H b (.dK ys) ∧ xs.length + ys.length ≤ sizeLine ∧ (mergeK xs ys).length ≤ sizeLine ∧ Q .non (upd H a (.dK (mergeK xs ys)))
theorem mt_dupd {X : Cx} : MtR X "dict.update" rDUpd := fun pins s σ H x vs v us Q I rx rv ⟨a, b, xs, ys, ex, ev, ne, ha, hb, hs, hm, q⟩ => by
  subst ex ev
  obtain rfl : v = Value.ref a := rx
  obtain ⟨y, rfl, ry⟩ := vals1 rv
  obtain rfl : y = Value.ref b := ry
  obtain ⟨_, sa, ps, ra, da⟩ := dk_of I.hok ha
  obtain ⟨_, sb, qs, rb, db⟩ := dk_rd I.hok hb
  have tot : ps.length + qs.length ≤ sizeLine := by rw [← ra.length, ← rb.length]; exact hs
  have act := PySem.meets_dict_update (mixKind X.prog X.w) a b ne sb
  refine call_meetsIn PySem.F.slot_dict_update da.typeIs PySem.F.entry_dict_update (PySem.F.args_dict_update_2 _ _) act ⟨ps, qs, da, db, tot, fun h' dd _ same => ?_⟩
  obtain ⟨ob, _, _, hob, _⟩ := id dd
  have J := d_write (ob := .dK (mergeK xs ys)) (t' := s.toks) I (by rw [ha]; exact True.intro) same ⟨ob, hob⟩ (dk_new hm sa (KV.merge rb ra) dd)
  exact ⟨.non, _, J, rfl, q⟩
theorem g_dupd {j : Nat} {ds ms : List (Key × D)} (ho : EvD K te ro ka (.val (.adr a)) k1) (h0 : ∃ (j0 : Nat) (ds0 : List (Key × D)), k1[j0]? = some (a, Nd.dic ds0)) (he : EvD K tf ro k1 (.val (.dic ms)) k2) (hj : k2[j]? = some (a, .dic ds)) (hz : ds.length + ms.length < 100000) (hz2 : (mergeT ds ms).length < 100000)
    (k : Gp K B F0 ta De.nx ro (k2.set j (a, .dic (mergeT ds ms)))) : Gp K B F0 ta (tDrop (tBM K "dict" rDUpd te (tCons tf tNil)) De) ro ka := fun sg H e => by
  refine ho B F0 ta sg H _ e fun u H1 e1 => ?_
  have hu := e1.tm_adr (v := u) (a := a) List.mem_cons_self
  subst hu
  obtain ⟨j0, ds0, h0⟩ := h0
  refine ⟨?_, he B F0 _ sg H1 _ e1 fun v H2 e2 => ?_⟩
  · obtain ⟨_, _, _, xs, hx, _⟩ := e1.cellAt h0
    exact .inr (.inr (.inl ⟨rfl, .inl ⟨xs, hx⟩⟩))
  · obtain ⟨F, g, ef, xs, hx, rx⟩ := e2.cellAt hj
    obtain ⟨c, ys, rfl, hc, rc⟩ := ef.tm (v, .val (.dic ms)) List.mem_cons_self
    have off := (ef.ce _ (List.mem_of_getElem? hj)).1
    have ne : a ≠ c := fun z => by
      subst z
      rcases hc with q | ⟨_, q⟩ <;> rw [show F a = none from off] at q <;> cases q
    have pm := pt_merge (rpk_pt.mp rc) (rpk_pt.mp rx)
    have big : 100000 ≤ sizeLine := by decide
    refine ⟨a, c, xs, ys, rfl, rfl, ne, hx, ef.fz.rd ef.nz hc, ?_, ?_, k _ _ ⟨F, g, ?_⟩⟩
    · rw [(rpk_pt.mp rx).len, (rpk_pt.mp rc).len]; omega
    · rw [pm.len]; omega
    · exact (ef.write (o := .dK (mergeK xs ys)) (n' := .dic (mergeT ds ms)) hj ⟨_, upd_same, rpk_pt.mpr pm⟩).held fun p hp => List.mem_cons_of_mem _ (List.mem_cons_of_mem _ hp)
theorem q_dupd {j : Nat} {ds ms : List (Key × D)} (ho : EvD K te ro ka (.val (.adr a)) k1) (h0 : ∃ (j0 : Nat) (ds0 : List (Key × D)), k1[j0]? = some (a, Nd.dic ds0)) (he : EvD K tf ro k1 (.val (.dic ms)) k2) (hj : k2[j]? = some (a, .dic ds)) (hz : ds.length + ms.length < 100000) (hz2 : (mergeT ds ms).length < 100000)
    (k : Gp K B F0 ta (u De) ro (k2.set j (a, .dic (mergeT ds ms)))) : Gp K B F0 ta (tSeq (tDrop (tBM K "dict" rDUpd te (tCons tf tNil))) u De) ro ka := g_dupd (De := { De with nx := u De }) ho h0 he hj hz hz2 k
theorem g_clear {j : Nat} {ds : List D} (ho : EvD K te ro ka (.val (.adr a)) k1) (hj : k1[j]? = some (a, .lst ds)) (k : Gp K B F0 ta De.nx ro (k1.set j (a, .lst []))) : Gp K B F0 ta (tDrop (tBM0 K "list" rClear te) De) ro ka := fun sg H e => by
  refine ho B F0 ta sg H _ e fun v H1 e1 => ?_
  have hv := e1.tm_adr (v := v) (a := a) List.mem_cons_self
  subst hv
  obtain ⟨F, g, ef⟩ := e1
  obtain ⟨xs, hx, _⟩ := ef.rd_lst hj
  exact ⟨.inl ⟨rfl, xs, .inl (.inl hx)⟩, a, xs, rfl, rfl, hx, k _ _ ⟨F, g, (ef.write (o := .lst []) (n' := .lst []) hj ⟨[], upd_same, rfl⟩).held fun p hp => List.mem_cons_of_mem _ hp⟩⟩
theorem q_clear {j : Nat} {ds : List D} (ho : EvD K te ro ka (.val (.adr a)) k1) (hj : k1[j]? = some (a, .lst ds)) (k : Gp K B F0 ta (u De) ro (k1.set j (a, .lst []))) : Gp K B F0 ta (tSeq (tDrop (tBM0 K "list" rClear te)) u De) ro ka := g_clear (De := { De with nx := u De }) ho hj k
end
end DL
namespace DL
open PySem L2 PySem.W
/-! ### facts -/
/-- an empty tuple of the module -/
def IsT0 (K : PySem.W.Frag) (a : Addr) : Prop := ∃ (o : Obj) (n : Nat), K.lookup a = some o ∧ o.cls = .type "tuple" ∧ o.data = .seq #[] n
def isT0 : Option Obj → Bool
  | some ⟨.type T, _, .seq its _, _⟩ => decide (T = "tuple") && its.isEmpty
  | _ => false
def fT0 (p : Str × Option Str) (i : Nat) : Fx := fun K => isT0 (K.lookup (He.dflAt p i K))
theorem t0_ok {K : PySem.W.Frag} {p : Str × Option Str} {i : Nat} (h : fT0 p i K = true) : IsT0 K (He.dflAt p i K) := by
  unfold fT0 at h
  cases hl : K.lookup (He.dflAt p i K) with
  | none => rw [hl] at h; cases h
  | some ob =>
    rw [hl] at h
    obtain ⟨cls, dict, data, sl⟩ := ob
    cases cls with
    | type T =>
      cases data with
      | seq its n =>
        have h' : (decide (T = "tuple") && its.isEmpty) = true := h
        rw [Bool.and_eq_true, decide_eq_true_eq] at h'
        obtain ⟨rfl, h2⟩ := h'
        have : its = #[] := Array.isEmpty_iff.mp h2
        subst this
        exact ⟨_, n, hl, rfl, rfl⟩
      | _ => cases h
    | _ => cases h
theorem wok_t0 {K : PySem.W.Frag} {a : Addr} (h : IsT0 K a) (B F : Hp) : WOk K B F (.ref a) (.val (.tup [])) := by
  obtain ⟨o, n, h1, h2, h3⟩ := h
  exact ⟨a, [], rfl, .inr ⟨o, #[], n, h1, h2, h3, Nat.zero_le _, .nil⟩, rfl⟩
section
variable {P : Program} {w : World} {K : PySem.W.Frag} {mg : Str → Option Value} {base : Heap} {f : Addr} {fd : FuncData} {x qual : Str} {params : Arguments} {body : List Stmt} {scope : Scope} {ps N : List Str} {k j : Nat} {C : Ct} {dvs : List V}
theorem fn_okD (F : FunD K x qual params body scope dvs [] f fd) (S : FnScope N ps scope) (hb : ∃ ds, Vals dvs ds ∧ Binds K fd ps ds) (hl : ∀ ws ka out, C ws ka out → ws.length = ps.length)
    (h : ∀ (cdv : Value) (A : Around) (outer : List Env) (s : Shared) (H : Hp) (E : XK), Room k (A.deeper (PyProof.Rows.envOfC qual scope s.heap.objs.size f cdv)) →
      ∃ t, PSs (cxOf (L2.CX P w) P w K mg base N qual scope f cdv A outer s H E) body t ∧
        ∀ ws ka out B F0 Q, C ws ka out → RtOk K B F0 out Q → RxOk K B F0 out E → Gp K B F0 [] (t { nx := fun _ H' => Q .non H', rt := Q }) (ws.map some ++ List.replicate (N.length - ps.length) none) ka) : FnD P w K mg base (k + 1) f ps dvs C := ⟨fd, fn_okG F S hl h, hb⟩
end
end DL
namespace DL
open PySem L2 PySem.W
theorem hu1 {k : Nat} {A : Around} (r : Room k A) : A.units + 1 < cLine := by have := r.units; omega
end DL

namespace DL
open PySem L2 PySem.W
section
variable {K : PySem.W.Frag} {B F F0 : Hp} {ro : Ro} {ka k1 k2 : Cells} {ta : List (V × W)} {sg : L2.St} {H : Hp} {te tf : TE} {w : W} {n : Nd}
/-! ### is None -/
def isNonD : D → Bool
  | .non => true
  | _ => false
theorem isNonD_of {F : Hp} {d : D} {v : V} (h : Rp K F d v) : decide (v = .non) = isNonD d := by
  cases d with
  | non => rw [show v = .non from h]; rfl
  | bl b => rw [show v = .bl b from h]; rfl
  | int i => rw [show v = .int i from h]; rfl
  | str s => rw [show v = .str s from h]; rfl
  | ty n => rw [show v = .ty n from h]; rfl
  | adr a => rw [show v = .ref a from h]; rfl
  | tup ds => obtain ⟨a, _, rfl, _⟩ := h; rfl
  | lst ds => obtain ⟨a, _, rfl, _⟩ := h; rfl
  | dic ds => obtain ⟨a, _, rfl, _⟩ := h; rfl
  | dit ds => obtain ⟨a, _, rfl, _⟩ := h; rfl
  | ins C fs => obtain ⟨a, _, _, rfl, _⟩ := h; rfl
theorem En.isN {d : D} (e : En K B F0 ro ka ta sg H) {v : V} (h : (v, w) ∈ ta) (hw : w = .val d ∨ w = .vw d) : decide (v = .non) = isNonD d := by
  obtain ⟨F, _, e⟩ := e
  have := e.tm _ h
  rcases hw with rfl | rfl
  · exact isNonD_of (F := F) this
  · exact isNonD_of (F := uni B F) this
theorem ev_isN {d : D} (h : EvD K te ro ka w k1) (hw : w = .val d ∨ w = .vw d := by exact .inl rfl) : EvD K (tOp rIsN te (tC .non)) ro ka (.val (.bl (isNonD d))) k1 := fun B F0 ta sg H Q e q => h B F0 ta sg H _ e fun v H1 e1 =>
  ⟨rfl, by rw [e1.isN List.mem_cons_self hw]; exact q _ _ (e1.pop.push_imm fun _ => rfl)⟩
theorem ev_notN {d : D} (h : EvD K te ro ka w k1) (hw : w = .val d ∨ w = .vw d := by exact .inl rfl) : EvD K (tOp rNotN te (tC .non)) ro ka (.val (.bl (!isNonD d))) k1 := fun B F0 ta sg H Q e q => h B F0 ta sg H _ e fun v H1 e1 =>
  ⟨rfl, by rw [e1.isN List.mem_cons_self hw]; exact q _ _ (e1.pop.push_imm fun _ => rfl)⟩
theorem EvNR.toR {R : Nd → Cells → Prop} (h : EvNR K te ro ka R) : EvR K te ro ka (fun w k => ∃ a n k0, w = .val (.adr a) ∧ R n k0 ∧ k = k0 ++ [(a, n)]) := fun B F0 ta sg H Q e q =>
  h B F0 ta sg H Q e fun n k a H' r e1 => q _ _ (.ref a) H' ⟨a, n, k, rfl, r, rfl⟩ (e1.push_imm fun _ => rfl)
end
end DL

namespace DL
open PySem L2 PySem.W
theorem sqf_stD (b : Bool) (ss : List Str) : SqF b (stD ss) := .inr (List.all_eq_true.mpr fun d hd => by
  obtain ⟨s, _, rfl⟩ := List.mem_map.mp hd
  rfl)
theorem stD_map {β : Type} (f : β → Str) (xs : List β) : stD (xs.map f) = xs.map fun x => .str (f x) := by
  unfold stD
  rw [List.map_map]
  rfl
end DL
namespace DL
open PySem L2 PySem.W
section
variable {K : PySem.W.Frag} {ro : Ro} {ka k1 k2 k3 : Cells} {te : TE} {tr : TA} {w : W} {E : XK}
/-- a method, its end told -/
theorem ev_methA {Cc : Ct} {ws : List W} {C : Addr} {m : Str} {fs : List (Str × D)} {b : Bool} {d : D} (kr : Cells) (h : EvD K te ro ka w k1) (l : Io k1 w C fs b) (hm : fs.lookup m = none) (ha : EvA K tr ro k1 ws (k2 ++ kr)) (hC : Cc (w :: ws) k2 (Rt d k3)) : EvD K (tMeth C m (spC K Cc) [] E te tr) ro ka (.val d) (k3 ++ kr) :=
  (evr_meth kr h l hm ha hC fun o k ho => ⟨d, ho.1⟩).d fun w' k ⟨d', k4, ho, e1, e2⟩ => by
    obtain ⟨h1, h2⟩ := ho
    cases h1
    exact ⟨e1, by rw [e2, h2]⟩
theorem at_t3 {d1 d2 d3 : D} {i j k : Nat} : AsT K (gTup K 3 (gCons (gName i) (gCons (gName j) (gCons (gName k) gNil)))) (.val (.tup [d1, d2, d3])) ro (((ro.set i (some (.val d1))).set j (some (.val d2))).set k (some (.val d3))) := at_tup rfl (al_cons at_n (al_cons at_n (al_cons at_n al_nil)))
end
end DL
namespace DL
open PySem L2 PySem.W
/-! ### tables with text keys -/
section
variable {β : Type} {f : β → D}
def tbD (f : β → D) (xs : List (Str × β)) : List (Key × D) := xs.map fun p => (.inr p.1, f p.2)
abbrev keysT (xs : List (Str × β)) : List Str := xs.map (·.1)
theorem tbD_len (xs : List (Str × β)) : (tbD f xs).length = xs.length := List.length_map _
theorem tbD_app (xs ys : List (Str × β)) : tbD f (xs ++ ys) = tbD f xs ++ tbD f ys := List.map_append
theorem getT_isSome {κ α : Type} [DecidableEq κ] (kvs : List (κ × α)) (k : κ) : (getT kvs k).isSome = hasT kvs k := by
  unfold getT hasT
  rw [Option.isSome_map]
  induction kvs with
  | nil => rfl
  | cons x l ih =>
    rw [List.find?_cons, List.any_cons]
    cases h : decide (x.1 = k) with
    | true => rfl
    | false => rw [ih]; rfl
theorem tb_has {xs : List (Str × β)} {s : Str} : hasT (tbD f xs) (.inr s) = decide (s ∈ keysT xs) := by
  unfold hasT tbD
  rw [List.any_map, Bool.eq_iff_iff, List.any_eq_true, decide_eq_true_eq, List.mem_map]
  constructor
  · rintro ⟨r, h1, h2⟩
    exact ⟨r, h1, Sum.inr.inj (of_decide_eq_true h2)⟩
  · rintro ⟨r, h1, h2⟩
    exact ⟨r, h1, decide_eq_true (congrArg Sum.inr h2)⟩
theorem tb_in (xs : List (Str × β)) (s : Str) : (getT (tbD f xs) (.inr s)).isSome = decide (s ∈ keysT xs) := (getT_isSome _ _).trans tb_has
theorem tb_put {xs : List (Str × β)} {s : Str} {v : β} (h : ¬ s ∈ keysT xs) : putT (tbD f xs) (.inr s) (f v) = tbD f (xs ++ [(s, v)]) := by
  unfold putT
  rw [if_neg (by rw [tb_has, decide_eq_true_eq]; exact h), tbD_app]
  rfl
theorem tb_get {xs : List (Str × β)} (hn : (keysT xs).Nodup) {s : Str} {v : β} (h : (s, v) ∈ xs) : getT (tbD f xs) (.inr s) = some (f v) := by
  induction xs with
  | nil => cases h
  | cons x l ih =>
    have hn2 := List.nodup_cons.mp hn
    unfold getT tbD
    rw [List.map_cons, List.find?_cons]
    rcases List.mem_cons.mp h with e | h
    · rw [← e, decide_eq_true rfl]
      rfl
    · have ne : ¬ (Sum.inr x.1 : Int ⊕ Str) = .inr s := fun z => hn2.1 (by show x.1 ∈ _; rw [Sum.inr.inj z]; exact List.mem_map.mpr ⟨_, h, rfl⟩)
      rw [decide_eq_false ne]
      exact ih hn2.2 h
theorem tb_at {xs : List (Str × β)} {i : Nat} {kv : Key × D} (h : (tbD f xs)[i]? = some kv) : ∃ r, xs[i]? = some r ∧ kv = (.inr r.1, f r.2) := by
  unfold tbD at h
  rw [List.getElem?_map] at h
  obtain ⟨r, h1, h2⟩ := Option.map_eq_some_iff.mp h
  exact ⟨r, h1, h2.symm⟩
theorem keys_app (xs ys : List (Str × β)) : keysT (xs ++ ys) = keysT xs ++ keysT ys := List.map_append
theorem key_has {xs : List (Str × β)} {s : Str} (h : s ∈ keysT xs) : ∃ v, (s, v) ∈ xs := by
  obtain ⟨p, hp, rfl⟩ := List.mem_map.mp h
  exact ⟨p.2, hp⟩
end
end DL
namespace DL
open PySem L2 PySem.W
section
variable {K : PySem.W.Frag} {ro : Ro} {ka k1 : Cells} {te tf : TE} {P : W → Cells → Prop} {R : Nd → Cells → Prop}
/-- [e, f], f told by a word -/
theorem evnr_l2 {d1 : D} (h1 : EvD K te ro ka (.val d1) k1) (h2 : EvR K tf ro k1 P) (hP : ∀ w k, P w k → ∃ d2, w = .val d2 ∧ R (.lst [d1, d2]) k) : EvNR K (tLst (tCons te (tCons tf tNil))) ro ka R := fun B F0 ta sg H Q e q =>
  h1 B F0 ta sg H _ e fun u H1 e1 => h2 B F0 _ sg H1 _ e1 fun w k v H2 p e2 => by
    obtain ⟨d2, rfl, r⟩ := hP w k p
    refine ⟨(by decide : 2 ≤ sizeLine), fun c hc => q _ k c _ r ?_⟩
    obtain ⟨F, g, ef⟩ := e2
    have hu := ef.tm (u, .val d1) (List.mem_cons_of_mem _ List.mem_cons_self)
    have hv := ef.tm (v, .val d2) List.mem_cons_self
    exact ⟨F, g, (ef.cell (o := .lst [u, v]) hc (n := .lst [d1, d2]) ⟨_, upd_same, u, [v], rfl, hu, v, [], rfl, hv, rfl⟩).held fun z hz => List.mem_cons_of_mem _ (List.mem_cons_of_mem _ hz)⟩
end
end DL
namespace DL
open PySem L2 PySem.W
section
variable {K : PySem.W.Frag} {B F0 : Hp} {ro : Ro} {ka k1 : Cells} {ta : List (V × W)} {te : TE} {w : W} {b : Bool} {R : Nd → Cells → Prop} {De : Ends} {u : TS}
/-- the texts of a list or tuple -/
theorem ei_strsL {t b : Bool} {ss : List Str} (h : EvD K te ro ka w k1) (l : Lk k1 w t (stD ss) b) : EvI K (iSeq K te) ro ka (ss.map fun s => W.val (.str s)) (Stay w (stD ss)) k1 := by
  have e : (stD ss).map (part b) = ss.map fun s => W.val (.str s) := by
    unfold stD
    rw [List.map_map]
    exact List.map_congr_left fun s _ => by cases b <;> rfl
  have := ei_seq h l
  rwa [e] at this
/-- a new dict, told as a whole, frozen -/
theorem EvNR.dicD {ms : List (Key × D)} (h : EvNR K te ro ka R) (hR : ∀ n k, R n k → n = .dic ms ∧ k = k1) : EvD K te ro ka (.val (.dic ms)) k1 := fun B F0 ta sg H Q e q => h B F0 ta sg H Q e fun n k a H1 r e1 => by
  obtain ⟨rfl, rfl⟩ := hR n k r
  exact q _ _ e1.freeze_k
theorem EvNR.lstD {ds : List D} (h : EvNR K te ro ka R) (hR : ∀ n k, R n k → n = .lst ds ∧ k = k1) : EvD K te ro ka (.val (.lst ds)) k1 := fun B F0 ta sg H Q e q => h B F0 ta sg H Q e fun n k a H1 r e1 => by
  obtain ⟨rfl, rfl⟩ := hR n k r
  exact q _ _ e1.freeze_l
/-- x = [.. for .. in d], d locked meanwhile -/
theorem g_asgLk {i : Nat} (h : EvNR K (tLkE te) ro ka R) (k : ∀ n k1 a, R n k1 → Gp K B F0 ta De.nx (ro.set i (some (.val (.adr a)))) (k1 ++ [(a, n)])) : Gp K B F0 ta (tLkS (tAsg te (gName i)) De) ro ka := g_asgNR (te := tLkE te) h k
theorem q_asgLk {i : Nat} (h : EvNR K (tLkE te) ro ka R) (k : ∀ n k1 a, R n k1 → Gp K B F0 ta (u De) (ro.set i (some (.val (.adr a)))) (k1 ++ [(a, n)])) : Gp K B F0 ta (tSeq (tLkS (tAsg te (gName i))) u De) ro ka := g_asgLk (De := { De with nx := u De }) h k
end
end DL
namespace DL
open PySem L2 PySem.W
section
variable {K : PySem.W.Frag} {ro : Ro} {ka k1 k2 : Cells} {ty td : TE} {P : W → Cells → Prop}
/-- text in d, d told by a word -/
theorem ev_dinR {s : Str} {bb : Bool} (h : EvD K ty ro ka (.val (.str s)) k1) (h2 : EvR K td ro k1 P) (hP : ∀ w k, P w k → k = k2 ∧ ∃ ds b, Dk k w ds b ∧ (getT ds (.inr s)).isSome = bb) : EvD K (tDIn ty td) ro ka (.val (.bl bb)) k2 := fun B F0 ta sg H Q e q =>
  h B F0 ta sg H _ e fun u H1 e1 => h2 B F0 _ sg H1 _ e1 fun w k v H2 p e2 => by
    obtain ⟨rfl, ds, b, l, hb⟩ := hP w k p
    have hu := e2.tm_str (v := u) (i := s) (List.mem_cons_of_mem _ List.mem_cons_self)
    subst hu
    obtain ⟨F, a, xs, g, ef, rfl, h3, h4⟩ := e2.dk l List.mem_cons_self
    have hx : (getT xs (.inr s)).isSome = bb := by rw [← hb, getT_isSome, getT_isSome, (rpk_pt.mp h4).any]
    refine ⟨a, getT xs (.inr s), rfl, .inl ⟨xs, .inr s, h3, rfl, rfl⟩, ?_⟩
    rw [hx]
    exact q _ _ ((e2.held (ta' := ta) fun p hp => List.mem_cons_of_mem _ (List.mem_cons_of_mem _ hp)).push_imm fun _ => rfl)
end
end DL
namespace DL
open PySem L2 PySem.W
section
variable {K : PySem.W.Frag} {ro : Ro} {ka k1 : Cells} {te tf : TE} {n : Nd} {y : W} {E : XK}
/-- f(e, e2), e a new cell, the call's end told by a word -/
theorem evr_callN {Cc : Ct} {out : Addr → Oc} (h1 : EvN K te ro ka n k1) (h2 : ∀ a, EvD K tf ro (k1 ++ [(a, n)]) y (k1 ++ [(a, n)])) (hC : ∀ a, Cc [.val (.adr a), y] [(a, n)] (out a)) (ho : ∀ a o k, out a o k → ∃ d, o = .ret d) :
    EvR K (tCall (spC K Cc) [] E (tCons te (tCons tf tNil))) ro ka (fun w k => ∃ a d k2, out a (.ret d) k2 ∧ w = .val d ∧ k = k2 ++ k1) := fun B F0 ta sg H Q e q =>
  h1 B F0 ta sg H _ e fun a H1 e1 => h2 a B F0 _ sg H1 _ (e1.tmA a) fun v H2 e2 => by
    have hp : ([(a, n)] ++ k1).Perm (k1 ++ [(a, n)]) := List.perm_append_comm
    have e3 := e2.perm hp
    refine sp_rel (kr := k1) (vs := [.ref a, v]) (ws := [.val (.adr a), y]) (ta := ta) (e3.held fun p h => ?_) rfl (hC a) (ho a) fun d k2 v' H' o e4 => q _ _ v' H' ⟨a, d, k2, o, rfl, rfl⟩ e4
    have h' : p ∈ (V.ref a, W.val (.adr a)) :: (v, y) :: ta := h
    rcases List.mem_cons.mp h' with rfl | h'
    · exact List.mem_cons_of_mem _ List.mem_cons_self
    · rcases List.mem_cons.mp h' with rfl | h'
      · exact List.mem_cons_self
      · exact List.mem_cons_of_mem _ (List.mem_cons_of_mem _ h')
end
end DL

/-! ED: d.get(k) (own work). -/
namespace DL
open PySem L2 PySem.W
section
variable {K : PySem.W.Frag} {ro : Ro} {ka k1 k2 : Cells} {td ty : TE} {w : W} {b : Bool}
/-- what a dict tells of a text: None where it has none -/
def getD? (ds : List (Key × D)) (s : Str) : D := (getT ds (.inr s)).getD .non
/-- d.get(text) -/
theorem ev_dgetN {s : Str} {ds : List (Key × D)} (h : EvD K td ro ka w k1) (l1 : Dk k1 w ds b) (h2 : EvD K ty ro k1 (.val (.str s)) k2) (l2 : Dk k2 w ds b) : EvD K (tDGet1 td ty) ro ka (part b (getD? ds s)) k2 := fun B F0 ta sg H Q e q =>
  h B F0 ta sg H _ e fun u H1 e1 => by
    obtain ⟨_, a, xs1, _, _, rfl, r1, _⟩ := e1.dk l1 List.mem_cons_self
    refine ⟨a, rfl, .inl ⟨xs1, r1⟩, h2 B F0 _ sg H1 _ e1 fun v H2 e2 => ?_⟩
    have hv := e2.tm_str (v := v) (i := s) List.mem_cons_self
    subst hv
    obtain ⟨F, a', xs, g, ef, ea, r2, rk⟩ := e2.dk l2 (List.mem_cons_of_mem _ List.mem_cons_self)
    cases ea
    have pt := (rpk_pt.mp rk).get (.inr s)
    refine ⟨getT xs (.inr s), .inl ⟨xs, .inr s, r2, rfl, rfl⟩, ?_⟩
    have back := ef.held (ta' := ta) fun p hp => List.mem_cons_of_mem _ (List.mem_cons_of_mem _ hp)
    unfold getD? at q
    cases hd : getT ds (.inr s) with
    | none =>
      rw [hd] at q
      rw [pt.1 hd]
      refine q _ _ ⟨F, g, back.push ?_⟩
      cases b <;> exact rfl
    | some d =>
      obtain ⟨x, hx, rx⟩ := pt.2 d hd
      rw [hd] at q
      rw [hx]
      exact q _ _ ⟨F, g, back.push (wok_part b rx)⟩
end
end DL

/-! EE: try with any number of except clauses, each with or without a name (own work). -/
namespace DL
open PySem L2 PySem.W PyProof.Rows

/-- the exception at a has come down in X; but for it the state is as σ, H tell -/
def Down (X : Cx) (pins : List (Addr × Obj)) (a : Addr) (cls : Value) (d : Option Addr) (σ : L2.St) (H : Hp) (s : Shared) : Prop :=
  ∃ (B : Heap) (s0 : Shared), L2.Inv X pins σ H s0 ∧ (∀ b o, s0.heap.get? b = some o → b ∉ frs X.stack → B.get? b = some o) ∧ s0.heap.UpToSlots s.heap ∧
    HandSPX.FlyingZ B (X.env :: X.outer) a (Zc cls d) s.heap ∧ H a = none ∧ s.os = s0.os ∧ AllBare s.gens
section
variable {X : Cx} {pins : List (Addr × Obj)} {a : Addr} {cls : Value} {d : Option Addr} {σ : L2.St} {H : Hp} {s : Shared}
theorem Down.inv (z : Down X pins a cls d σ H s) : L2.Inv X pins σ H s :=
  let ⟨_, _, I, nb, up, fl, _, os, ag⟩ := z
  I.landed nb fl.1 up os ag
theorem Down.obj (z : Down X pins a cls d σ H s) : ∃ (oe : Obj) (vs : Array Value), s.heap.get? a = some oe ∧ Zc cls d oe ∧ oe.data = .fields vs :=
  let ⟨_, _, _, _, _, fl, _⟩ := z
  let ⟨oe, vs, h1, h2, h3⟩ := fl.there
  ⟨oe, vs, h1, h2, h3⟩
/-- no frame's slots stand there -/
theorem Down.off (z : Down X pins a cls d σ H s) : a ∉ frs (X.env :: X.outer) := fun hm => by
  obtain ⟨oe, vs, h1, _, h3⟩ := z.obj
  obtain ⟨_, _, _, _, _, fl, _⟩ := z
  obtain ⟨_, o, h4, h5⟩ := fl.2.2.1.mem hm
  rw [h1] at h4
  cases h4
  exact h5 _ h3
/-- the state that an except suite finds -/
theorem Down.within (z : Down X pins a cls d σ H s) (hf : X.env.frame = some X.env.locals) : ∃ oe vs, oe.data = .fields vs ∧ Zc cls d oe ∧ s.heap.get? a = some oe ∧ L2.Inv (X.suite a ((a, oe) :: (X.pn ++ pins))) [] σ H s := by
  obtain ⟨oe, vs, h1, h2, h3⟩ := z.obj
  have off := z.off
  have na : H a = none := let ⟨_, _, _, _, _, _, na, _⟩ := z; na
  refine ⟨oe, vs, h3, h2, h1, z.inv.suite h1 h3 na (fun e => off ?_) fun hm => off ?_⟩
  · exact List.mem_filterMap.mpr ⟨X.env, List.mem_cons_self, by rw [hf, e]⟩
  · obtain ⟨e, he, q⟩ := List.mem_filterMap.mp hm
    exact List.mem_filterMap.mpr ⟨e, List.mem_cons_of_mem _ he, q⟩
theorem Down.again {M : Model} {A : Around} {E : Value → Shared → Prop} {Q : Unit → Shared → Prop} (z : Down X pins a cls d σ H s) (k : ∀ s', Down X pins a cls d σ H s' → Q () s') : wpAny M A (setFlight (.ref a) none) Q E s := by
  obtain ⟨B, s0, I, nb, up, fl, na, os, ag⟩ := z
  exact HandSPX.lands_againZ fl fun h' fl' up' => k _ ⟨B, s0, I, nb, up.trans up', fl', na, os, ag⟩
/-- no clause takes it -/
theorem Down.pass {W : WX} {Q : Flow → Shared → Prop} (z : Down X pins a cls d σ H s) (hs : X.stack = X.env :: X.outer) (hf : X.env.frame = some X.env.locals) (tk : Takes X W) (w : W cls d σ H) : wpAny (model X.prog X.w) X.A (handleBy (.ref a) X.env []) Q X.xe s := by
  obtain ⟨B, s0, I, nb, up, fl, na, os, ag⟩ := z
  obtain ⟨oe, vs, T, oT, ts, h1, h2, h3, h4, _⟩ := id fl.2.2.2
  have out : wpAny (model X.prog X.w) X.A (setFlight (.ref a) X.env.frame) (fun _ s4 => wpAny (model X.prog X.w) X.A (throw (.ref a) : Sem Flow) Q X.xe s4) X.xe s := by
    rw [hf]
    exact HandSPX.setFlight_upZ fl fun h' held up' => wpAny_throw (tk _ _ ⟨a, B, s0, pins, σ, H, cls, d, rfl, I, nb, up.trans up', .inr (.inr (hs ▸ held)), na, os, ag, w⟩)
  apply wpAny_handleBy_nil
  unfold PySem.passOn
  refine wpAny_bind (wpAny_field h1 h3 h4 ?_)
  have ne : ¬ (Value.ref T == Value.none) = true := by simp
  rw [if_neg ne]
  first
    | exact wpAny_bind (wpAny_pure (wpAny_bind out))
    | exact wpAny_bind out
end
/-- a clause: its class, the slot of its name, its suite -/
abbrev Cla := Value × Option Nat × (Addr → Value → Option Addr → TS)
/-- where a suite ends: its name is gone -/
def goneE (D : Ends) : Option Nat → Ends
  | none => D
  | some i => { nx := fun σ H => D.nx (σ.set i none) H, rt := D.rt, bk := fun σ H => D.bk (σ.set i none) H, ct := fun σ H => D.ct (σ.set i none) H }
def nameS (σ : L2.St) (a : Addr) : Option Nat → L2.St
  | none => σ
  | some i => σ.set i (some (.ref a))
/-- what one clause wishes: that its class tells whether it takes the exception; if so its suite's wish, else W -/
def oneCla (K : PySem.W.Frag) (D : Ends) (c : Cla) (W : WX) : WX := fun cls d σ H =>
  (exmOne K cls c.1 = some true ∧ ∀ a, H a = none → c.2.2 a cls d (goneE D c.2.1) (nameS σ a c.2.1) H) ∨ (exmOne K cls c.1 = some false ∧ W cls d σ H)
def wCla (K : PySem.W.Frag) (Wout : WX) (D : Ends) (l : List Cla) : WX := l.foldr (oneCla K D) Wout
/-- these clauses deal with whatever W lets come down -/
def Deals (X : Cx) (D : Ends) (hds : List ExceptHandler) (W : WX) : Prop := ∀ (pins : List (Addr × Obj)) (a : Addr) (cls : Value) (d : Option Addr) (σ : L2.St) (H : Hp) (s : Shared),
  Down X pins a cls d σ H s → W cls d σ H → wpAny (model X.prog X.w) X.A (handleBy (.ref a) X.env hds) (SP X pins D) X.xe s
/-- a suite keeps its wish -/
def SuiteOk (X : Cx) (b0 : Stmt) (suite : List Stmt) (ts : Addr → Value → Option Addr → TS) : Prop :=
  ∀ (a : Addr) (oe : Obj) (cls : Value) (d : Option Addr) (pn : List (Addr × Obj)), Zc cls d oe → (∃ vs, oe.data = .fields vs) → PSs (X.suite a ((a, oe) :: pn)) (b0 :: suite) (ts a cls d)
section
variable {X : Cx} {pins : List (Addr × Obj)} {a : Addr} {cls : Value} {d : Option Addr} {σ : L2.St} {H : Hp} {s : Shared} {D : Ends} {Wout W : WX} {f : Flow}
theorem Deals.nil (hs : X.stack = X.env :: X.outer) (hf : X.env.frame = some X.env.locals) (tk : Takes X Wout) : Deals X D [] Wout := fun _ _ _ _ _ _ _ z w => z.pass hs hf tk w
/-- the end of a suite without a name, seen from outside -/
theorem SP.outward {q0 : List (Addr × Obj)} {X' : Cx} (e : SP X' q0 D f s) (k : ∀ σ1 H1, L2.Inv X' q0 σ1 H1 s → L2.Inv X pins σ1 H1 s) : SP X pins D f s := by
  rcases f with _ | _ | _ | u
  · obtain ⟨σ1, H1, J, y⟩ := e
    exact ⟨σ1, H1, k _ _ J, y⟩
  · obtain ⟨σ1, H1, J, y⟩ := e
    exact ⟨σ1, H1, k _ _ J, y⟩
  · obtain ⟨σ1, H1, J, y⟩ := e
    exact ⟨σ1, H1, k _ _ J, y⟩
  · obtain ⟨v, σ1, H1, J, y⟩ := e
    exact ⟨v, σ1, H1, k _ _ J, y⟩
/-- a clause's class, looked up where the suite will stand -/
theorem Down.class_read (z : Down X pins a cls d σ H s) (hf : X.env.frame = some X.env.locals) {x : Str} {c : Value} {p : Pos} (hc : Names X x c) {Q : Value → Shared → Prop} {E : Value → Shared → Prop} (k : Q c s) :
    wpAny (model X.prog X.w) (X.A.mark (some (.ref a))) (eval (.Name x p) X.env) Q E s := by
  obtain ⟨oe, vs, _, _, _, S⟩ := z.within hf
  obtain ⟨g, nd, m | ⟨m, v, nn⟩⟩ := hc
  · exact ld_glob (X := X.suite a ((a, oe) :: (X.pn ++ pins))) S g m k nd
  · exact ld_blt (X := X.suite a ((a, oe) :: (X.pn ++ pins))) S g m v k nn nd
/-- does the class at c take it? -/
theorem Down.asked (z : Down X pins a cls d σ H s) {c : Value} {b : Bool} (h : exmOne X.K cls c = some b) : PySem.W.Looks (model X.prog X.w) s.heap (excMatches (.ref a) c) b :=
  PySem.W.exm_one z.inv.kIn (fun A Q E s' kp q => by
    obtain ⟨oe, vs, at_, zc, _⟩ := z.obj
    exact wpAny_typeOf_ref (kp _ _ at_) (zc.1.symm ▸ q)) h
theorem Deals.plain (hf : X.env.frame = some X.env.locals) {x : Str} {c : Value} {ts : Addr → Value → Option Addr → TS} {b0 : Stmt} {suite : List Stmt} {p q : Pos} {hds : List ExceptHandler} (hc : Names X x c) (ok : SuiteOk X b0 suite ts) (rest : Deals X D hds W) :
    Deals X D (.ExceptHandler (some (.Name x p)) none (b0 :: suite) q :: hds) (oneCla X.K D (c, none, ts) W) := fun pins a cls d σ H s z w => by
  refine wpAny_handleBy_cons (codeAny_handlers_test (z.class_read hf hc ?_)) (fun e => by cases e)
  rcases w with ⟨hb, w⟩ | ⟨hb, w⟩ <;> refine (z.asked hb).here ?_
  · refine codeAny_handlers_suite (z.again fun s1 z1 => ?_)
    obtain ⟨oe, vs, dat, zc, _, S⟩ := z1.within hf
    have na : H a = none := z.elim fun _ r => r.elim fun _ r => r.2.2.2.2.1
    exact wpAny_mono ((ok a oe cls d (X.pn ++ pins) zc ⟨_, dat⟩).run [] s1 σ H D S (w a na)) (fun g s2 e => SP.outward e fun _ _ J => J.unsuite z.inv.ok) fun _ _ z => z.elim
  · exact rest pins a cls d σ H s z w
theorem Deals.named (hf : X.env.frame = some X.env.locals) (hN : X.N.Nodup) {x n : Str} {c : Value} {i : Nat} {ts : Addr → Value → Option Addr → TS} {b0 : Stmt} {suite : List Stmt} {p q : Pos} {hds : List ExceptHandler} (hc : Names X x c) (hi : X.N[i]? = some n) (hl : X.env.kindOf n = some .local)
    (ok : SuiteOk X b0 suite ts) (rest : Deals X D hds W) : Deals X D (.ExceptHandler (some (.Name x p)) (some n) (b0 :: suite) q :: hds) (oneCla X.K D (c, some i, ts) W) := fun pins a cls d σ H s z w => by
  refine wpAny_handleBy_cons (codeAny_handlers_test (z.class_read hf hc ?_)) (fun e => by cases e)
  rcases w with ⟨hb, w⟩ | ⟨hb, w⟩ <;> refine (z.asked hb).here ?_
  · refine codeAny_handlers_suite_as (z.again fun s1 z1 => ?_)
    obtain ⟨oe, vs, dat, zc, _, S⟩ := z1.within hf
    have na : H a = none := z.elim fun _ r => r.elim fun _ r => r.2.2.2.2.1
    refine store_ok (X := X.suite a ((a, oe) :: (X.pn ++ pins))) (v := .ref a) S hN hi (.inl hl) rfl (fun s2 S2 => ?_) (.inr hl)
    refine wpAny_mono ((ok a oe cls d (X.pn ++ pins) zc ⟨_, dat⟩).run [] s2 _ H (goneE D (some i)) S2 (w a na)) (fun g s3 e => ?_) fun _ _ z => z.elim
    rcases g with _ | _ | _ | u
    · obtain ⟨σ1, H1, J, y⟩ := e
      exact gone_ok (J.unsuite z.inv.ok) hN hi hl fun s4 J4 => ⟨_, H1, J4, y⟩
    · obtain ⟨σ1, H1, J, y⟩ := e
      exact gone_ok (J.unsuite z.inv.ok) hN hi hl fun s4 J4 => ⟨_, H1, J4, y⟩
    · obtain ⟨σ1, H1, J, y⟩ := e
      exact gone_ok (J.unsuite z.inv.ok) hN hi hl fun s4 J4 => ⟨_, H1, J4, y⟩
    · obtain ⟨v, σ1, H1, J, y⟩ := e
      exact gone_ok (J.unsuite z.inv.ok) hN hi hl fun s4 J4 => ⟨v, _, H1, J4, y⟩
  · exact rest pins a cls d σ H s z w
end
section
variable {X : Cx} {body : List Stmt} {h0 : ExceptHandler} {hds : List ExceptHandler} {l : List Cla} {pos : Pos} {tb : WX → TS} {Wout : WX}
/-- try: body, except .., except .. as .. -/
theorem ps_tryC (hs : X.stack = X.env :: X.outer) (hf : X.env.frame = some X.env.locals) (tk : Takes X Wout)
    (hb : ∀ (W : WX) (pn : List (Addr × Obj)) (xe : Value → Shared → Prop), Takes (X.tr pn xe) W → PassesOwn (model X.prog X.w) X.A X.env xe → PSs (X.tr pn xe) body (tb W))
    (hh : ∀ D, Deals X D [] Wout → Deals X D (h0 :: hds) (wCla X.K Wout D l)) : PS X (.Try body (h0 :: hds) [] [] pos) (fun D σ H => tb (wCla X.K Wout D l) D σ H) where
  run pins s σ H D I h := by
    have ok := I.ok
    have hfr : X.A.frames = some (X.env :: X.outer) := ok.frames.trans (congrArg some hs)
    apply wpAny_Try_except
    let xe : Value → Shared → Prop := fun e s1 => wpAny (model X.prog X.w) X.A (noteFrame e X.env) (fun _ s2 => wpAny (model X.prog X.w) X.A (setFlight e none) (fun _ s3 =>
      wpAny (model X.prog X.w) X.A (handleBy e X.env (h0 :: hds)) (SP X pins D) X.xe s3) X.xe s2) X.xe s1
    have catches : Takes (X.tr (X.pn ++ pins) xe) (wCla X.K Wout D l) := by
      rintro _ s' ⟨a, B, s0, pins', σ', H', cls, d, rfl, J, nb, up, sky, na, os, ag, w⟩
      have sky' : Sky B (X.env :: X.outer) a (Zc cls d) X.env.locals s'.heap := hs ▸ sky
      exact Sky.land Zc.steady hfr hf sky' fun h3 fl up3 => hh D (.nil hs hf tk) _ _ _ _ _ _ _ ⟨B, s0, J.ofTry ok, nb, up.trans up3, fl, na, os, ag⟩ w
    refine wpAny_mono ((hb _ (X.pn ++ pins) xe catches PassesOwn.looking).run [] s σ H D (I.toTry _) h) (fun f s1 e => ?_) fun _ _ z => z
    have back := SP.outward (X := X) (pins := pins) e fun _ _ J => J.ofTry ok
    cases f with
    | next => exact wpAny_execs_nil back
    | ret u => exact back
    | brk => exact back
    | cont => exact back
end
end DL

/-! EF: what several clauses do with an exception, by data (own work). -/
namespace DL
open PySem L2 PySem.W
/-- of the clauses l the one with oi, ts takes an exception of C1 -/
inductive Hit (K : PySem.W.Frag) (C1 : Addr) : List Cla → Option Nat → (Addr → Value → Option Addr → TS) → Prop
  | here {c : Value} {oi : Option Nat} {ts : Addr → Value → Option Addr → TS} {r : List Cla} (h : exmOne K (.ref C1) c = some true) : Hit K C1 ((c, oi, ts) :: r) oi ts
  | next {c : Value} {oi oj : Option Nat} {ts us : Addr → Value → Option Addr → TS} {r : List Cla} (h : exmOne K (.ref C1) c = some false) (k : Hit K C1 r oi ts) : Hit K C1 ((c, oj, us) :: r) oi ts
/-- the slots of a suite: the exception's name alone is told -/
def suiteR (n : Nat) (a : Addr) : Option Nat → Ro
  | none => List.replicate n none
  | some i => (List.replicate n none).set i (some (.val (.adr a)))
section
variable {K : PySem.W.Frag} {B F0 : Hp} {ro : Ro} {ka k1 k2 k3 kr : Cells} {ta : List (V × W)} {sg : L2.St} {H : Hp} {te tf : TE} {tr : TA} {C C1 : Addr} {gs : List (Str × D)} {E : XK} {De De' : Ends} {dx : Option Addr} {l : List Cla} {oi : Option Nat} {ts : Addr → Value → Option Addr → TS} {Wout : WX} {u : TS}
theorem En.wiped (e : En K B F0 ro ka ta sg H) {σ : L2.St} (h : σ.length = ro.length) : En K B F0 (List.replicate ro.length none) ka ta σ H :=
  let ⟨F, g, q⟩ := e
  ⟨F, g, q.frame (by rw [List.length_replicate, h]) fun i w z => by rw [List.getElem?_replicate] at z; split at z <;> cases z⟩
theorem hit_wish {D : Ends} {σ : L2.St} (hit : Hit K C1 l oi ts) (h : ∀ a, ts a (.ref C1) dx (goneE D oi) (nameS σ a oi) H) : wCla K Wout D l (.ref C1) dx σ H := by
  induction hit with
  | here hx => exact .inl ⟨hx, fun a _ => h a⟩
  | next hx _ ih => exact .inr ⟨hx, ih h⟩
theorem xw_cla (hit : Hit K C1 l oi ts) (h : ∀ a, Gp K B F0 ta (ts a (.ref C1) dx (goneE De oi)) (suiteR ro.length a oi) ka) (e : En K B F0 ro ka ta sg H) : XW ro.length (wCla K Wout De l) (.ref C1) dx H := fun σ hσ =>
  hit_wish hit fun a => by
    have e2 := e.wiped hσ
    cases oi with
    | none => exact h a σ H e2
    | some i => exact h a _ H (e2.setA i a)
/-- return of what raises an error with fields, caught -/
theorem g_retY (h : EvX K te ro ka (XW ro.length (wCla K Wout De l)) C1 gs k2) (hit : Hit K C1 l oi ts) (hs : ∀ a dx, Gp K B F0 ta (ts a (.ref C1) (some dx) (goneE De oi)) (suiteR ro.length a oi) (k2 ++ [(dx, .xd gs)])) : Gp K B F0 ta (tRet te De') ro ka := fun sg H e =>
  h B F0 ta sg H _ e fun dx H' e' => xw_cla hit (fun a => hs a dx) e'
/-- the same as a statement -/
theorem g_dropY (h : EvX K te ro ka (XW ro.length (wCla K Wout De l)) C1 gs k2) (hit : Hit K C1 l oi ts) (hs : ∀ a dx, Gp K B F0 ta (ts a (.ref C1) (some dx) (goneE De oi)) (suiteR ro.length a oi) (k2 ++ [(dx, .xd gs)])) : Gp K B F0 ta (tDrop te De') ro ka := fun sg H e =>
  h B F0 ta sg H _ e fun dx H' e' => xw_cla hit (fun a => hs a dx) e'
/-- te ends with an error without fields -/
def EvX0 (K : PySem.W.Frag) (te : TE) (ro : Ro) (ka : Cells) (E : XK) (C1 : Addr) (k2 : Cells) : Prop := ∀ B F0 ta sg H (Q : VK), En K B F0 ro ka ta sg H → (∀ H', En K B F0 ro k2 ta sg H' → E (.ref C1) none H') → te sg H Q
theorem evx0_call {Cc : Ct} {ws : List W} {E' : XK} (ha : EvA K tr ro ka ws (k2 ++ kr)) (hC : Cc ws k2 (X0 C1 k3)) (hE : E' = E) : EvX0 K (tCall (spC K Cc) [] E' tr) ro ka E C1 (k3 ++ kr) := fun B F0 ta sg H Q e q => by
  subst hE
  refine ha B F0 ta sg H _ e fun vs H1 hl e1 => ?_
  rw [List.append_nil]
  exact sp_exc0 e1 hl hC (fun _ _ z => z) fun H' e3 => q H' e3
theorem g_retY0 (h : EvX0 K te ro ka (XW ro.length (wCla K Wout De l)) C1 k2) (hit : Hit K C1 l oi ts) (hs : ∀ a, Gp K B F0 ta (ts a (.ref C1) none (goneE De oi)) (suiteR ro.length a oi) k2) : Gp K B F0 ta (tRet te De') ro ka := fun sg H e =>
  h B F0 ta sg H _ e fun H' e' => xw_cla hit hs e'
end
end DL

/-! EG: enumerate of lists (own work). -/
namespace DL
open PySem L2 PySem.W
section
variable {K : PySem.W.Frag} {ro : Ro} {ka k1 : Cells} {te : TE} {w : W}
/-- for i, x in enumerate(xs): the pairs -/
def enumD (ds : List D) : List D := (List.range ds.length).map fun i : Nat => .tup [.int (i : Int), ds.getD i .non]
theorem ei_enum {ds : List D} (h : EvD K te ro ka w k1) (l : Lk k1 w false ds false) : EvI K (iEnum K (tCons te tNil)) ro ka ((List.range ds.length).map fun i : Nat => W.val (.tup [.int (i : Int), ds.getD i .non])) (Stay w ds) k1 := fun B F0 ta sg H R e q =>
  h B F0 ta sg H _ e fun v H1 e1 => by
    have again : ∀ (a : Addr) ro2 ka2 ta2 sg2 H2, Stay w ds ka2 → (V.ref a, w) ∈ ta2 → En K B F0 ro2 ka2 ta2 sg2 H2 → ∃ F ys, EnF K B F ro2 ka2 ta2 sg2 H2 ∧ Gr B F0 F ∧ SqL K H2 a ys ∧ RpL K F ds ys := fun a ro2 ka2 ta2 sg2 H2 hs hm e2 => by
      obtain ⟨F, g, ef⟩ := e2
      obtain ⟨b, ys, eb, s2, r2⟩ := (l.mono ka2 hs).get ef (ef.tm _ hm)
      cases eb
      exact ⟨F, ys, ef, g, .inl s2, r2⟩
    obtain ⟨F, g, ef⟩ := id e1
    obtain ⟨a, xs, rfl, s1, r1⟩ := l.get ef (ef.tm _ List.mem_cons_self)
    refine ⟨a, xs, rfl, .inl s1, q _ ((.ref a, w) :: ta) H1 (fun p hp => List.mem_cons_of_mem _ hp) e1 (fun i w2 ro2 ka2 ta2 sg2 H2 hw hs hm e2 => ?_) fun i ro2 ka2 ta2 sg2 H2 hi hs hm e2 => ?_⟩
    · obtain ⟨F2, ys, ef2, g2, s2, r2⟩ := again a ro2 ka2 ta2 sg2 H2 hs (hm _ List.mem_cons_self) e2
      rw [List.getElem?_map] at hw
      obtain ⟨i', hi', rfl⟩ := Option.map_eq_some_iff.mp hw
      obtain ⟨hi1, hi2⟩ := List.getElem?_eq_some_iff.mp hi'
      rw [List.getElem_range] at hi2
      subst hi2
      rw [List.length_range] at hi1
      have hd : ds[i]? = some ds[i] := List.getElem?_eq_getElem hi1
      have hg : ds.getD i .non = ds[i] := by rw [List.getD_eq_getElem?_getD, hd]; rfl
      obtain ⟨y, hy, ry⟩ := rpl_get r2 hd
      refine ⟨⟨ys, y, s2, hy⟩, fun x H3 ⟨T, x', ex, hT, eH, hx⟩ => ?_⟩
      subst ex eH
      have h5 := hx ys s2
      rw [hy] at h5
      cases h5
      obtain ⟨e4, g4⟩ := ef2.lay (o := .tup [.int (i : Nat), y]) hT rfl
      refine ⟨_, g2.trans g4, e4.push ⟨T, _, rfl, .inl (.inl upd_same), ?_⟩⟩
      rw [hg]
      exact ⟨_, _, rfl, rfl, y, [], rfl, Rp.mono g4.sub.exz ef2.nz _ _ ry, rfl⟩
    · obtain ⟨F2, ys, ef2, g2, s2, r2⟩ := again a ro2 ka2 ta2 sg2 H2 hs (hm _ List.mem_cons_self) e2
      rw [List.length_map, List.length_range] at hi
      exact ⟨ys, s2, by rw [rpl_len r2]; exact hi⟩
end
end DL

namespace DL
open PySem L2 PySem.W
theorem at_last {β : Type} {xs : List β} {x : β} (h : xs.getLast? = some x) : atI xs (-1) = some x := by
  rw [List.getLast?_eq_getElem?] at h
  have hlt := (List.getElem?_eq_some_iff.mp h).1
  unfold atI ixN
  rw [if_neg (by decide), if_pos (by omega)]
  show xs[((-1 : Int) + (xs.length : Int)).toNat]? = some x
  rw [show ((-1 : Int) + (xs.length : Int)).toNat = xs.length - 1 by omega]
  exact h
theorem cut_mid {β : Type} {xs : List β} {i j : Nat} (hj : j ≤ xs.length) (hi : i ≤ j) : cutD xs (some (i : Int)) (some (j : Int)) = (xs.drop i).take (j - i) := by
  unfold cutD
  rw [HT.sIx_nat, HT.sIx_nat, Nat.min_eq_left hj, Nat.min_eq_left (by omega)]
end DL

/-! EH: for loops of the hand layer out of the library's Goes: what an iterator hands out, told once, serves every caller (own work). -/
namespace DL
open PySem L2 PySem.W PyProof.Rows
/-- enumerate(v) for whatever begins with an iterator of its own -/
abbrev enumAt (i : Addr) : Obj := { cls := .type "enumerate", data := .fields #[.none, .bool false, .ref i, rawInt 0, .none, .none] }
theorem enum_new {v : Value} {o : Obj} {G : Heap → Prop} (B : Begins v o G) : Meets (Builtin.«enumerate.__new__» ⟨[.type "enumerate", v], []⟩)
    (fun _ R s => G s.heap ∧ R (.ok (.ret (.ref (s.heap.push o).objs.size))) { s with heap := (s.heap.push o).push (enumAt s.heap.objs.size) }) :=
  .of_wp fun prog w A R s ⟨g, h⟩ => by
    have own := sub_enumerate
    have go : ∀ {A' : Around} {E Q : Value → Shared → Prop}, Q (.ref s.heap.objs.size) { s with heap := s.heap.push o } → wpAny (model prog w) A' (pyIter v) Q E s := B.iter prog w _ _ s _ g
    wp_walk using go
    refine wpAny_stack_any fun _ => wpAny_pure ?_
    split
    all_goals try (rename_i c _ _ _ _ _; cases c == Value.type "enumerate")
    all_goals
      wp_walk using go
      exact ⟨_, rfl, h⟩
/-- the two new objects: the iterator, the count over it -/
theorem enum_called {prog : Program} {w : World} {A : Around} {E Q : Value → Shared → Prop} {s : Shared} {v : Value} {o : Obj} {G : Heap → Prop} (B : Begins v o G) (g : G s.heap)
    (h : ∀ n h', n = s.heap.objs.size → IsEnum h' (n + 1) n 0 .none → h'.get? n = some o → (∀ b ob, s.heap.get? b = some ob → h'.get? b = some ob) → Q (.ref (n + 1)) { s with heap := h' }) : wpAny (model prog w) A (call (.type "enumerate") [v]) Q E s := by
  apply callType_new F.called_enumerate (by decide) (F.typeCall_enumerate_1 _) (F.newCall_enumerate_1 _) (fun obj => F.args_object_init_2 obj _) F.entry_enumerate_new (enum_new B)
  have at1 : ((s.heap.push o).push (enumAt s.heap.objs.size)).get? (s.heap.objs.size + 1) = some (enumAt s.heap.objs.size) := by
    rw [← Heap.size_push]
    exact Heap.get?_push_size _ rfl
  have fin := h _ _ rfl at1 (Heap.get?_push_of_some _ (Heap.get?_push_size _ B.free)) fun b ob y => Heap.get?_push_of_some _ (Heap.get?_push_of_some _ y)
  rw [← Heap.size_push (o := o)] at fin at1
  exact ⟨g, ⟨_, at1, rfl⟩, fin⟩
end DL

/-! EI: nothing of its own (kept for the order of the parts). -/

/-! EJ: for i, x in enumerate(t), t a tuple: the library's GoesN over its Draws.tuple, told for the hand layer (own work). -/
namespace DL
open PySem L2 PySem.W PyProof.Rows
/-- each item in a new pair -/
def IteT (K : PySem.W.Frag) (a : Addr) : It where
  go i H := ∃ xs x, SqT K H a xs ∧ xs[i]? = some x
  yld i H v H' := ∃ T x, v = .ref T ∧ H T = none ∧ H' = upd H T (.tup [.int (i : Nat), x]) ∧ ∀ xs, SqT K H a xs → xs[i]? = some x
  stop i H := ∃ xs, SqT K H a xs ∧ xs.length ≤ i
/-- what stands at turn i: the count, the iterator; the three lie apart -/
structure EnT (a e it : Addr) (i : Nat) (h : Heap) : Prop where
  en : ∃ old, IsEnum h e it (0 + (i : Int)) old
  itr : h.IsTupleIter it a i
  apart : e ≠ it ∧ a ≠ it ∧ a ≠ e
namespace EnT
variable {a e it : Addr} {i : Nat} {h : Heap}
theorem cells (z : EnT a e it i h) : ∀ b ∈ [e, it], ∃ o, h.get? b = some o ∧ ∀ v, o.data ≠ .cell v := by
  obtain ⟨⟨_, x⟩, ⟨o, y, _, d⟩, _⟩ := z
  simp only [List.forall_mem_cons, List.not_mem_nil, false_imp_iff, implies_true, and_true]
  exact ⟨⟨_, x, fun _ c => nomatch c⟩, o, y, fun _ c => nomatch d.symm.trans c⟩
theorem le (z : EnT a e it i h) {b T : Addr} (hb : b ∈ [e, it]) (hT : h.objs.size ≤ T) : b ≠ T := fun q =>
  let ⟨_, y, _⟩ := z.cells b hb
  Nat.lt_irrefl _ (Nat.lt_of_lt_of_le (q ▸ Heap.lt_size y) hT)
theorem out (z : EnT a e it i h) : e ∉ [it, a] := by
  have := z.apart
  simp only [List.mem_cons, List.not_mem_nil, or_false, not_or]
  exact ⟨this.1, this.2.2.symm⟩
end EnT
theorem turn_enumT {P : Program} {w : World} {K : PySem.W.Frag} {es : List Expr} {k : Nat} {p : Pos} (a e it : Addr) : Turn P w K (.Tuple es k p) (IteT K a) [e, it] e (EnT a e it) where
  mem := List.mem_cons_self
  obj := fun _ _ z => z.cells
  keep := fun i h h' z same => ⟨z.en.imp fun _ y => same _ List.mem_cons_self _ y, z.itr.at (same _ (List.mem_cons_of_mem _ List.mem_cons_self)), z.apart⟩
  self := fun _ _ _ _ _ z q => z.en.elim fun _ y => wpAny_pyIter_enum y q
  item := by
    rintro X rfl rfl rfl hc i pins s σ H E I off z ⟨xs, x, hq, hx⟩
    obtain ⟨its, vals, tup, _⟩ := I.tuple hq
    obtain ⟨u, hu, ru⟩ := vals.get hx
    have here : its.toArray[i]? = some u := by rw [List.getElem?_toArray]; exact hu
    refine (GoesN.enumFrom (elts := es) (x1 := k) (pos := p) 0 (Draws.tuple (A := X.A.in1) (I.ok.hd hc) it a z.apart.2.1 its.toArray) e z.apart.1 z.out List.mem_cons_self).goes i s _ E (Array.getElem?_eq_some_iff.mp here).1 ⟨z.en, z.itr, tup⟩ ?_
    rintro _ h' tk ⟨T, t, y, rfl, hT, hy, made⟩ ⟨en', itr', _⟩ kept _
    cases here.symm.trans hy
    rw [Int.zero_add] at made
    have new : ObjOk X.prog X.w (upd H T (.tup [.int (i : Nat), x])) h' T (.tup [.int (i : Nat), x]) := ⟨Nat.le_of_ble_eq_true rfl, [.int i t, u], .cons ⟨t, rfl⟩ (.cons ru .nil), made⟩
    exact ⟨.ref T, _, I.turnedNew kept off hT new, rfl, ⟨T, x, rfl, I.hok.fresh hT, rfl, fun ys hy => I.tuple_inj hy hq ▸ hx⟩, ⟨en', itr', z.apart⟩, fun b hb => (upd_ne (z.le hb hT)).trans (off b hb).1⟩
  done := by
    rintro X rfl rfl rfl hc i pins s σ H E I off z ⟨xs, hq, hx⟩
    obtain ⟨its, vals, tup, _⟩ := I.tuple hq
    have none_ : its.toArray[i]? = none := Array.getElem?_eq_none (by rw [List.size_toArray, ← vals.length]; exact hx)
    have D : Draws X.prog X.w X.A.in1 it [it, a] i (fun _ _ => True) (fun j h => j = i ∧ h.IsTupleIter it a i ∧ h.IsTuple a its.toArray) :=
      { live := fun _ _ z => z.2.1.elim fun o q => ⟨o, q.1⟩
        frame := fun j h h' z keep => ⟨z.1, z.2.1.at (keep it List.mem_cons_self), z.2.2.at (keep a (List.mem_cons_of_mem _ List.mem_cons_self))⟩
        item := fun j s Q E hj z _ => absurd z.1 (Nat.ne_of_lt hj)
        done := fun s Q E z hE => wpAny_nextOf_tuple_end (I.ok.hd hc) z.2.1 z.2.2 none_ hE }
    obtain ⟨old, en⟩ := z.en
    obtain ⟨f0, f1, _, f3, f4, f5⟩ := off it (List.mem_cons_of_mem _ List.mem_cons_self)
    exact wpAny_pyNext_enum_endD D en ⟨rfl, z.itr, tup⟩ fun h' kept => ⟨rfl, I.turned (t' := s.toks) (fun b o hb q => kept b o hb q) f0 f1 f3 f4 f5⟩
def iEnumT (K : PySem.W.Frag) (ta : TA) : TI := fun σ H R => ta σ H fun vs H1 => ∃ a xs, vs = [.ref a] ∧ SqT K H1 a xs ∧ R (IteT K a) H1
theorem pi_enumT {X : Cx} {e : Expr} {ta : TA} {p pos tpos : Pos} {elts : List Expr} {kk : Nat} (hg : Gl X "enumerate") (hm : X.mg "enumerate" = none) (ha : PA X [e] ta) (hs : starEach [e] X.env = [(false, eval e X.env)] := by rfl) :
    PI X (.Tuple elts kk tpos) (.Call (.Name "enumerate" p) [e] [] pos) (iEnumT X.K ta) where
  run pins s σ H R I h := by
    apply Call_ (ld_blt I hg hm boot_enumerate (callWith_type1 (thn (ha.run pos pins s σ H _ I h) ?_) hs rfl))
    rintro us s1 ⟨vs, H1, I1, rv, a, xs, rfl, hq, q⟩
    obtain ⟨_, rfl, ⟨⟩⟩ := vals1 rv
    obtain ⟨its, _, tup, _⟩ := I1.tuple hq
    refine enum_called (begins_tuple a its.toArray) tup fun n h' hn en iter keep => wpAny_pyIter_enum en ?_
    have below : a < n := hn ▸ tup.elim fun _ z => Heap.lt_size z.1
    have new_ : ∀ b, s1.heap.objs.size ≤ b → FpOk X pins H1 b := fun b ge => I1.fpOk ge (I1.hok.fresh ge)
    have ge_of : ∀ b ∈ [n + 1, n], FpOk X pins H1 b := List.forall_mem_cons.mpr ⟨new_ _ (Nat.le_succ_of_le (Nat.le_of_eq hn.symm)), List.forall_mem_singleton.mpr (new_ _ (Nat.le_of_eq hn.symm))⟩
    exact ⟨n + 1, [n + 1, n], EnT a (n + 1) n, IteT X.K a, H1, rfl, I1.kept (t' := s1.toks) keep, turn_enumT a (n + 1) n,
      ⟨⟨_, en⟩, ⟨_, iter, rfl, rfl⟩, Nat.succ_ne_self n, Nat.ne_of_lt below, Nat.ne_of_lt (Nat.lt_succ_of_lt below)⟩,
      fun b hb => ge_of b hb, q⟩
end DL

/-! EK: enumerate of lists and tuples alike (own work). -/
namespace DL
open PySem L2 PySem.W
/-- enumerate, of a list or of a tuple -/
def iEnumU (K : PySem.W.Frag) (ta : TA) : TI := fun sg H R => iEnum K ta sg H R ∨ iEnumT K ta sg H R
theorem pi_enumU {X : Cx} {e : Expr} {ta : TA} {p pos tpos : Pos} {elts : List Expr} {kk : Nat} (hg : Gl X "enumerate") (hm : X.mg "enumerate" = none) (ha : PA X [e] ta) (hs : starEach [e] X.env = [(false, eval e X.env)] := by rfl) :
    PI X (.Tuple elts kk tpos) (.Call (.Name "enumerate" p) [e] [] pos) (iEnumU X.K ta) :=
  ⟨fun pins s sg H R I h => h.elim ((pi_enum hg hm ha hs).run pins s sg H R I) ((pi_enumT hg hm ha hs).run pins s sg H R I)⟩
section
variable {K : PySem.W.Frag} {ro : Ro} {ka k1 : Cells} {te : TE} {w : W}
theorem ei_enumT {ds : List D} (h : EvD K te ro ka (.val (.tup ds)) k1) : EvI K (iEnumT K (tCons te tNil)) ro ka ((List.range ds.length).map fun i : Nat => W.val (.tup [.int (i : Int), ds.getD i .non])) (fun _ => True) k1 := fun B F0 ta sg H R e q =>
  h B F0 ta sg H _ e fun v H1 e1 => by
    have again : ∀ (a : Addr) ro2 ka2 ta2 sg2 H2, (V.ref a, W.val (.tup ds)) ∈ ta2 → En K B F0 ro2 ka2 ta2 sg2 H2 → ∃ F ys, EnF K B F ro2 ka2 ta2 sg2 H2 ∧ Gr B F0 F ∧ SqT K H2 a ys ∧ RpL K F ds ys := fun a ro2 ka2 ta2 sg2 H2 hm e2 => by
      obtain ⟨F, g, ef⟩ := e2
      obtain ⟨b, ys, eb, s2, r2⟩ := Lk.vt.get ef (ef.tm _ hm)
      cases eb
      exact ⟨F, ys, ef, g, s2, r2⟩
    obtain ⟨F, g, ef⟩ := id e1
    obtain ⟨a, xs, rfl, s1, r1⟩ := Lk.vt.get ef (ef.tm _ List.mem_cons_self)
    refine ⟨a, xs, rfl, s1, q _ ((.ref a, W.val (.tup ds)) :: ta) H1 (fun p hp => List.mem_cons_of_mem _ hp) e1 (fun i w2 ro2 ka2 ta2 sg2 H2 hw hs hm e2 => ?_) fun i ro2 ka2 ta2 sg2 H2 hi hs hm e2 => ?_⟩
    · obtain ⟨F2, ys, ef2, g2, s2, r2⟩ := again a ro2 ka2 ta2 sg2 H2 (hm _ List.mem_cons_self) e2
      rw [List.getElem?_map] at hw
      obtain ⟨i', hi', rfl⟩ := Option.map_eq_some_iff.mp hw
      obtain ⟨hi1, hi2⟩ := List.getElem?_eq_some_iff.mp hi'
      rw [List.getElem_range] at hi2
      subst hi2
      rw [List.length_range] at hi1
      have hd : ds[i]? = some ds[i] := List.getElem?_eq_getElem hi1
      have hg : ds.getD i .non = ds[i] := by rw [List.getD_eq_getElem?_getD, hd]; rfl
      obtain ⟨y, hy, ry⟩ := rpl_get r2 hd
      refine ⟨⟨ys, y, s2, hy⟩, fun x H3 ⟨T, x', ex, hT, eH, hx⟩ => ?_⟩
      subst ex eH
      have h5 := hx ys s2
      rw [hy] at h5
      cases h5
      obtain ⟨e4, g4⟩ := ef2.lay (o := .tup [.int (i : Nat), y]) hT rfl
      refine ⟨_, g2.trans g4, e4.push ⟨T, _, rfl, .inl (.inl upd_same), ?_⟩⟩
      rw [hg]
      exact ⟨_, _, rfl, rfl, y, [], rfl, Rp.mono g4.sub.exz ef2.nz _ _ ry, rfl⟩
    · obtain ⟨F2, ys, ef2, g2, s2, r2⟩ := again a ro2 ka2 ta2 sg2 H2 (hm _ List.mem_cons_self) e2
      rw [List.length_map, List.length_range] at hi
      exact ⟨ys, s2, by rw [rpl_len r2]; exact hi⟩
theorem ei_orL {w1 w2 : TI} {ws : List W} {C : Cells → Prop} (h : EvI K w1 ro ka ws C k1) : EvI K (fun sg H R => w1 sg H R ∨ w2 sg H R) ro ka ws C k1 := fun B F0 ta sg H R e q => .inl (h B F0 ta sg H R e q)
theorem ei_orR {w1 w2 : TI} {ws : List W} {C : Cells → Prop} (h : EvI K w2 ro ka ws C k1) : EvI K (fun sg H R => w1 sg H R ∨ w2 sg H R) ro ka ws C k1 := fun B F0 ta sg H R e q => .inr (h B F0 ta sg H R e q)
/-- frozen lists, list cells, tuples -/
theorem ei_enumU {t : Bool} {ds : List D} (h : EvD K te ro ka w k1) (l : Lk k1 w t ds false) : EvI K (iEnumU K (tCons te tNil)) ro ka ((List.range ds.length).map fun i : Nat => W.val (.tup [.int (i : Int), ds.getD i .non])) (Stay w ds) k1 := by
  cases t with
  | false => exact ei_orL (ei_enum h l)
  | true =>
    cases l
    exact ei_orR (ei_enumT h)
end
end DL
namespace DL
open PySem L2 PySem.W
section
variable {K : PySem.W.Frag} {B F0 : Hp} {ro : Ro} {ka : Cells} {ta : List (V × W)} {De : Ends} {t u : TS}
/-- a statement whose ends meet under a word -/
theorem q_meet (Inv : Ro → Cells → Prop) (h : ∀ nx, (∀ ro2 ka2, Inv ro2 ka2 → Gp K B F0 ta nx ro2 ka2) → Gp K B F0 ta (t { De with nx := nx }) ro ka) (k : ∀ ro2 ka2, Inv ro2 ka2 → Gp K B F0 ta (u De) ro2 ka2) : Gp K B F0 ta (tSeq t u De) ro ka := h _ k
theorem Gp.up {ta' : List (V × W)} {P : L2.St → Hp → Prop} (h : Gp K B F0 ta P ro ka) (s : ∀ p ∈ ta, p ∈ ta') : Gp K B F0 ta' P ro ka := fun sg H e => h sg H (e.held s)
end
/-! ### x not in y, y a text, a list, a tuple or a dict -/
def rDNi : R2 := fun x y H Q => ∃ a o, y = .ref a ∧ DGet H a x o ∧ Q (.bl (!o.isSome)) H
def rNiD (K : PySem.W.Frag) : R2 := fun x y H Q => rNiU K x y H Q ∨ rDNi x y H Q
section
variable {X : Cx}
theorem op_dni (hu : X.A.units + 1 < cLine) : OpR X (compareOp .NotIn) rDNi := fun pins s sg H x y v u Q I rx ry h => by
  obtain ⟨a, o, rfl, g, q⟩ := h
  obtain rfl : u = Value.ref a := ry
  exact d_notIn hu I g rx fun s' I' => ⟨.bl (!o.isSome), H, I', rfl, q⟩
theorem op_niD (hu : X.A.units + 1 < cLine) : OpR X (compareOp .NotIn) (rNiD X.K) := op_niU.or (op_dni hu)
end
/-- w holds the texts ys: a list or tuple of them, or a dict with these keys -/
inductive HasS (ka : Cells) : W → List Str → Prop where
  | sq {w : W} {t b : Bool} {ys : List Str} (l : Lk ka w t (stD ys) b) : HasS ka w ys
  | dc {w : W} {ds : List (Key × D)} {b : Bool} {ys : List Str} (l : Dk ka w ds b) (h : ∀ s, (getT ds (.inr s)).isSome = decide (s ∈ ys)) : HasS ka w ys
section
variable {K : PySem.W.Frag} {ro : Ro} {ka k1 k2 : Cells} {te tf : TE} {y : W}
theorem rv_dni {s : Str} {ds : List (Key × D)} {b : Bool} (l : Dk ka y ds b) : RvD K rDNi ka (.val (.str s)) y (.val (.bl (!(getT ds (.inr s)).isSome))) := fun B F0 ro ta sg H u v Q e h1 h2 q => by
  obtain rfl := e.tm_str h1
  obtain ⟨F, a, xs, g, ef, rfl, h3, h4⟩ := e.dk l h2
  have hg := (rpk_pt.mp h4).get (.inr s)
  refine ⟨a, getT xs (.inr s), rfl, .inl ⟨xs, .inr s, h3, rfl, rfl⟩, q _ _ ?_⟩
  have e5 := e.push_imm (v := .bl (!(getT xs (.inr s)).isSome)) (w := .val (.bl (!(getT xs (.inr s)).isSome))) fun _ => rfl
  cases hd : getT ds (.inr s) with
  | none => rw [hg.1 hd] at e5 ⊢; exact e5
  | some d =>
    obtain ⟨x, hx, _⟩ := hg.2 d hd
    rw [hx] at e5 ⊢
    exact e5
theorem ev_niH {s : Str} {ys : List Str} (h : EvD K te ro ka (.val (.str s)) k1) (h2 : EvD K tf ro k1 y k2) (l : HasS k2 y ys) : EvD K (tOp (rNiD K) te tf) ro ka (.val (.bl (!decide (s ∈ ys)))) k2 := by
  cases l with
  | sq l => exact ev_op h h2 (rvd_l (rvd_r (rv_inL (neg := true) l)))
  | dc l hs => exact (ev_op h h2 (rvd_r (rv_dni l))).to (by rw [hs])
end
end DL

/-! EL: cells frozen for the length of one expression, then cells again (own work). -/
namespace DL
open PySem L2 PySem.W
/-! ### data that reads no cell: numbers, texts, tuples of these -/
mutual
def tI : D → Bool
  | .lst _ => false | .dic _ => false | .dit _ => false | .ins _ _ => false
  | .tup xs => tIL xs
  | _ => true
def tIL : List D → Bool
  | [] => true
  | d :: ds => tI d && tIL ds
end
theorem tIL_all : ∀ {ds : List D}, (∀ d ∈ ds, tI d = true) → tIL ds = true
  | [], _ => rfl
  | d :: ds, h => by
    rw [tIL, h d List.mem_cons_self, tIL_all fun x hx => h x (List.mem_cons_of_mem _ hx)]
    rfl
theorem tIL_stD (ss : List Str) : tIL (stD ss) = true := tIL_all fun d hd => by
  obtain ⟨s, _, rfl⟩ := List.mem_map.mp hd
  rfl
def ndI : Nd → Bool
  | .lst ds => tIL ds
  | .dic ds => ds.all fun p => tI p.2
  | .ins _ fs => fs.all fun p => tI p.2
  | .xd fs => fs.all fun p => tI p.2
  | _ => false
section
variable {K : PySem.W.Frag} {B B' F F' F0 H H' : Hp} {ro ro' : Ro} {ka k1 k2 k3 kr kt : Cells} {ta tb : List (V × W)} {sg sg' : L2.St} {te tf : TE} {tt : TT} {w x y : W} {n : Nd} {a : Addr} {C : Addr}
/-- the heap F with the cells kt of H put in -/
def thF (F H : Hp) (kt : Cells) : Hp := fun a => if a ∈ kt.map (·.1) then H a else F a
theorem thF_in {a : Addr} (h : a ∈ kt.map (·.1)) : thF F H kt a = H a := if_pos h
theorem thF_out {a : Addr} (h : a ∉ kt.map (·.1)) : thF F H kt a = F a := if_neg h
theorem thF_sub (h : ∀ p ∈ kt, F p.1 = none) : Sub F (thF F H kt) := fun a o e => by
  rw [thF_out fun m => ?_]
  · exact e
  · obtain ⟨p, hp, rfl⟩ := List.mem_map.mp m
    rw [h p hp] at e
    cases e
/-- cells of the three kinds -/
def ndK : Nd → Bool
  | .lst _ => true | .dic _ => true | .ins _ _ => true
  | _ => false
theorem ndok_kind {a : Addr} (h : NdOk K F H a n) (k : ndK n = true) : ∃ o, H a = some o ∧ isfz o = false ∧ ∀ xs, o ≠ .tup xs := by
  cases n with
  | lst ds => obtain ⟨xs, e, _⟩ := h; exact ⟨_, e, rfl, fun _ z => nomatch z⟩
  | dic ds => obtain ⟨xs, e, _⟩ := h; exact ⟨_, e, rfl, fun _ z => nomatch z⟩
  | ins C ds => obtain ⟨dx, xs, e, _⟩ := h; exact ⟨_, e, rfl, fun _ z => nomatch z⟩
  | _ => cases k
/-- what is known of cells that are put in -/
structure Thw (K : PySem.W.Frag) (F H : Hp) (kt : Cells) : Prop where
  no : ∀ p ∈ kt, F p.1 = none
  ok : ∀ p ∈ kt, NdOk K F H p.1 p.2
  kd : ∀ p ∈ kt, ndK p.2 = true
theorem Thw.gr (t : Thw K F H kt) (hB : ∀ p ∈ kt, B p.1 = none) : Gr B F (thF F H kt) := ⟨thF_sub t.no, fun a h1 h2 => by
  rw [thF_out fun m => ?_]
  · exact h1
  · obtain ⟨p, hp, rfl⟩ := List.mem_map.mp m
    exact h2 (hB p hp)⟩
theorem EnF.thw (e : EnF K B F ro (k1 ++ kt) ta sg H) (kd : ∀ p ∈ kt, ndK p.2 = true) : Thw K F H kt := ⟨fun p hp => (e.ce p (List.mem_append_right _ hp)).1, fun p hp => (e.ce p (List.mem_append_right _ hp)).2.2, kd⟩
theorem EnF.thB (e : EnF K B F ro (k1 ++ kt) ta sg H) : ∀ p ∈ kt, B p.1 = none := fun p hp => (e.ce p (List.mem_append_right _ hp)).2.1
theorem EnF.apart (e : EnF K B F ro (k1 ++ kt) ta sg H) {p : Addr × Nd} (hp : p ∈ k1) : p.1 ∉ kt.map (·.1) := fun m => by
  have nd := e.nd
  rw [List.map_append, List.nodup_append] at nd
  exact nd.2.2 p.1 (List.mem_map.mpr ⟨p, hp, rfl⟩) p.1 m rfl
/-- the cells kt go into what is frozen -/
theorem EnF.th_in (e : EnF K B F ro (k1 ++ kt) ta sg H) (kd : ∀ p ∈ kt, ndK p.2 = true) : EnF K (thF B H kt) (thF F H kt) ro k1 ta sg H := by
  have t := e.thw kd
  have hB := e.thB
  have gr := t.gr hB
  have sB : Sub B (thF B H kt) := thF_sub hB
  have nz : Nz (thF F H kt) := fun a u h => by
    by_cases m : a ∈ kt.map (·.1)
    · rw [thF_in m] at h
      obtain ⟨p, hp, rfl⟩ := List.mem_map.mp m
      obtain ⟨o, ho, hz, _⟩ := ndok_kind (t.ok p hp) (kd p hp)
      rw [ho] at h
      cases h
      exact hz
    · rw [thF_out m] at h
      exact e.nz a u h
  refine ⟨nz, fun a u h => ?_, fun a u h => ?_, ?_, fun p hp => ?_, e.ln, fun i w h => ?_, fun p hp => wok_subB nz sB (wok_gr e.nz gr (e.tm p hp))⟩
  · by_cases m : a ∈ kt.map (·.1)
    · rw [thF_in m] at h
      exact .inl h
    · rw [thF_out m] at h
      exact e.fz a u h
  · by_cases m : a ∈ kt.map (·.1)
    · rw [thF_in m] at h
      exact h
    · rw [thF_out m] at h
      exact e.fr a u h
  · have nd := e.nd
    rw [List.map_append, List.nodup_append] at nd
    exact nd.1
  · obtain ⟨c1, c2, c3⟩ := e.ce p (List.mem_append_left _ hp)
    have m := e.apart hp
    exact ⟨by rw [thF_out m]; exact c1, by rw [thF_out m]; exact c2, ndok_gr e.nz gr c3⟩
  · obtain ⟨v, h1, h2⟩ := e.sl i w h
    exact ⟨v, h1, wok_subB nz sB (wok_gr e.nz gr h2)⟩
/-! ### data that reads no cell stays without the cells -/
section
variable (no : ∀ b ∈ kt.map (·.1), ∃ o, F' b = some o ∧ isfz o = false ∧ ∀ xs, o ≠ .tup xs)
include no
theorem sqt_off {b : Addr} {xs : List V} (h : SqT K F' b xs) : SqT K (off F' kt) b xs := by
  rcases h with h | h
  · have m : b ∉ kt.map (·.1) := fun m => by
      obtain ⟨o, h1, h2, h3⟩ := no b m
      rcases h with h | ⟨z, h⟩
      · rw [h1] at h
        exact h3 _ (Option.some.inj h)
      · rw [h1] at h
        cases h
        cases h2
    exact .inl (h.elim (fun q => .inl (by rw [off_out m]; exact q)) fun ⟨z, q⟩ => .inr ⟨z, by rw [off_out m]; exact q⟩)
  · exact .inr h
mutual
theorem rp_off : ∀ (d : D) (v : V), tI d = true → Rp K F' d v → Rp K (off F' kt) d v
  | .non, v, _, h => h
  | .bl _, v, _, h => h
  | .int _, v, _, h => h
  | .str _, v, _, h => h
  | .ty _, v, _, h => h
  | .adr _, v, _, h => h
  | .tup ds, v, t, h => by
    obtain ⟨b, xs, e, h1, h2⟩ := h
    exact ⟨b, xs, e, sqt_off no h1, rpl_off ds xs t h2⟩
theorem rpl_off : ∀ (ds : List D) (xs : List V), tIL ds = true → RpL K F' ds xs → RpL K (off F' kt) ds xs
  | [], xs, _, h => h
  | d :: ds, xs, t, h => by
    obtain ⟨x, ys, e, h1, h2⟩ := h
    rw [tIL, Bool.and_eq_true] at t
    exact ⟨x, ys, e, rp_off d x t.1 h1, rpl_off ds ys t.2 h2⟩
end
theorem rpk_off : ∀ (ds : List (Key × D)) (xs : List (Key × V)), (ds.all fun p => tI p.2) = true → RpK K F' ds xs → RpK K (off F' kt) ds xs
  | [], xs, _, h => h
  | (k, d) :: ds, xs, t, h => by
    obtain ⟨x, ys, e, h1, h2⟩ := h
    rw [List.all_cons, Bool.and_eq_true] at t
    exact ⟨x, ys, e, rp_off no d x t.1 h1, rpk_off ds ys t.2 h2⟩
theorem rpf_off : ∀ (ds : List (Str × D)) (xs : List (Str × V)), (ds.all fun p => tI p.2) = true → RpF K F' ds xs → RpF K (off F' kt) ds xs
  | [], xs, _, h => h
  | (k, d) :: ds, xs, t, h => by
    obtain ⟨x, ys, e, h1, h2⟩ := h
    rw [List.all_cons, Bool.and_eq_true] at t
    exact ⟨x, ys, e, rp_off no d x t.1 h1, rpf_off ds ys t.2 h2⟩
theorem ndok_off {b : Addr} (t : ndI n = true) (h : NdOk K F' H' b n) : NdOk K (off F' kt) H' b n := by
  cases n with
  | lst ds => obtain ⟨xs, e, r⟩ := h; exact ⟨xs, e, rpl_off no ds xs t r⟩
  | dic ds => obtain ⟨xs, e, r⟩ := h; exact ⟨xs, e, rpk_off no ds xs t r⟩
  | ins C ds => obtain ⟨dx, xs, e, r⟩ := h; exact ⟨dx, xs, e, rpf_off no ds xs t r⟩
  | xd ds => obtain ⟨xs, e, r⟩ := h; exact ⟨xs, e, rpf_off no ds xs t r⟩
  | _ => cases t
end
/-- the cells kt come back -/
theorem EnF.th_out (e : EnF K B F ro (k1 ++ kt) ta sg H) (kd : ∀ p ∈ kt, ndK p.2 = true) (g : Gr (thF B H kt) (thF F H kt) F') (e' : EnF K (thF B H kt) F' ro' k2 tb sg' H') (h2 : ∀ p ∈ k2, ndI p.2 = true)
    {tc : List (V × W)} (hc : ∀ p ∈ tc, p ∈ ta ∨ ∃ d, p.2 = .val d ∧ tI d = true ∧ p ∈ tb) : Gr B F (off F' kt) ∧ EnF K B (off F' kt) ro (k2 ++ kt) tc sg H' := by
  have t := e.thw kd
  have hB := e.thB
  have inF : ∀ b ∈ kt.map (·.1), F' b = H b ∧ H' b = H b ∧ ∃ o, H b = some o ∧ isfz o = false ∧ ∀ xs, o ≠ .tup xs := fun b m => by
    obtain ⟨p, hp, rfl⟩ := List.mem_map.mp m
    obtain ⟨o, ho, hz⟩ := ndok_kind (t.ok p hp) (kd p hp)
    have h1 : F' p.1 = some o := g.sub _ _ (by rw [thF_in m, ho])
    have h3 : H' p.1 = some o := e'.fr _ _ (by rw [thF_in m, ho])
    exact ⟨h1.trans ho.symm, h3.trans ho.symm, o, ho, hz⟩
  have no : ∀ b ∈ kt.map (·.1), ∃ o, F' b = some o ∧ isfz o = false ∧ ∀ xs, o ≠ .tup xs := fun b m => by
    obtain ⟨h1, _, o, ho, hz⟩ := inF b m
    exact ⟨o, h1.trans ho, hz⟩
  have gr : Gr B F (off F' kt) := by
    refine ⟨fun b u h => ?_, fun b h1 h2 => ?_⟩
    · have m : b ∉ kt.map (·.1) := fun m => by
        obtain ⟨p, hp, rfl⟩ := List.mem_map.mp m
        rw [t.no p hp] at h
        cases h
      rw [off_out m]
      exact g.sub _ _ (by rw [thF_out m]; exact h)
    · have m : b ∉ kt.map (·.1) := fun m => by
        obtain ⟨p, hp, rfl⟩ := List.mem_map.mp m
        exact h2 (hB p hp)
      rw [off_out m]
      exact g.off b (by rw [thF_out m]; exact h1) (by rw [thF_out m]; exact h2)
  refine ⟨gr, fun b u h => e'.nz b u (off_some h).2, fun b u h => e'.fz b u (off_some h).2, fun b u h => ?_, ?_, fun p hp => ?_, e.ln, fun i w h => ?_, fun p hp => ?_⟩
  · have m : b ∉ kt.map (·.1) := fun m => by
      obtain ⟨p, hp, rfl⟩ := List.mem_map.mp m
      rw [hB p hp] at h
      cases h
    exact e'.fr _ _ (by rw [thF_out m]; exact h)
  · have nd := e.nd
    rw [List.map_append, List.nodup_append] at nd ⊢
    refine ⟨e'.nd, nd.2.1, fun b h1 c h2 z => ?_⟩
    subst z
    obtain ⟨p, hp, rfl⟩ := List.mem_map.mp h1
    have n1 := (e'.ce p hp).1
    obtain ⟨q1, _, o, ho, _⟩ := inF p.1 h2
    rw [q1, ho] at n1
    cases n1
  · rcases List.mem_append.mp hp with hp | hp
    · obtain ⟨c1, c2, c3⟩ := e'.ce p hp
      have m : p.1 ∉ kt.map (·.1) := fun m => by
        obtain ⟨q1, _, o, ho, _⟩ := inF p.1 m
        rw [q1, ho] at c1
        cases c1
      refine ⟨by rw [off_out m]; exact c1, ?_, ndok_off no (h2 p hp) c3⟩
      rw [thF_out m] at c2
      exact c2
    · have m : p.1 ∈ kt.map (·.1) := List.mem_map.mpr ⟨p, hp, rfl⟩
      exact ⟨off_in m, hB p hp, ndok_at (inF p.1 m).2.1 (ndok_gr e.nz gr (t.ok p hp))⟩
  · obtain ⟨v, h1, h2⟩ := e.sl i w h
    exact ⟨v, h1, wok_gr e.nz gr h2⟩
  · rcases hc p hp with hp | ⟨d, e1, e2, hp⟩
    · exact wok_gr e.nz gr (e.tm p hp)
    · have := e'.tm p hp
      rw [e1] at this ⊢
      exact rp_off no d p.1 e2 this
end
/-! ### what a cell stands for -/
/-- the cell at a, with what stands behind it among kt, is the data d -/
def FrzD (K : PySem.W.Frag) (kt : Cells) (a : Addr) (d : D) : Prop := ∀ F H, Nz F → Thw K F H kt → Rp K (thF F H kt) d (.ref a)
/-- the same, or a cell and what it stands for -/
inductive FzR (K : PySem.W.Frag) (kt : Cells) : D → D → Prop where
  | s (d : D) : FzR K kt d d
  | a {a : Addr} {d : D} (h : FrzD K kt a d) : FzR K kt (.adr a) d
section
variable {K : PySem.W.Frag} {F H : Hp} {kt : Cells} {a : Addr} {C : Addr}
theorem FzR.rp {d e : D} {v : V} (z : FzR K kt d e) (nz : Nz F) (t : Thw K F H kt) (h : Rp K F d v) : Rp K (thF F H kt) e v := by
  cases z with
  | s => exact Rp.mono (thF_sub t.no).exz nz _ _ h
  | a q =>
    obtain rfl : v = _ := h
    exact q F H nz t
def FzL (K : PySem.W.Frag) (kt : Cells) : List D → List D → Prop
  | [], es => es = []
  | d :: ds, es => ∃ e r, es = e :: r ∧ FzR K kt d e ∧ FzL K kt ds r
theorem FzL.same : ∀ ds : List D, FzL K kt ds ds
  | [] => rfl
  | d :: ds => ⟨d, ds, rfl, .s d, FzL.same ds⟩
theorem FzL.rp (nz : Nz F) (t : Thw K F H kt) : ∀ {ds es : List D} {xs : List V}, FzL K kt ds es → RpL K F ds xs → RpL K (thF F H kt) es xs
  | [], es, xs, z, h => by
    obtain rfl : es = [] := z
    exact h
  | d :: ds, es, xs, ⟨e, r, e1, z1, z2⟩, ⟨x, ys, e2, h1, h2⟩ => by
    subst e1
    exact ⟨x, ys, e2, z1.rp nz t h1, FzL.rp nz t z2 h2⟩
def FzF (K : PySem.W.Frag) (kt : Cells) : List (Str × D) → List (Str × D) → Prop
  | [], es => es = []
  | (k, d) :: ds, es => ∃ e r, es = (k, e) :: r ∧ FzR K kt d e ∧ FzF K kt ds r
theorem FzF.rp (nz : Nz F) (t : Thw K F H kt) : ∀ {ds es : List (Str × D)} {xs : List (Str × V)}, FzF K kt ds es → RpF K F ds xs → RpF K (thF F H kt) es xs
  | [], es, xs, z, h => by
    obtain rfl : es = [] := z
    exact h
  | (k, d) :: ds, es, xs, ⟨e, r, e1, z1, z2⟩, ⟨x, ys, e2, h1, h2⟩ => by
    subst e1
    exact ⟨x, ys, e2, z1.rp nz t h1, FzF.rp nz t z2 h2⟩
theorem frz_l {ds es : List D} (m : (a, Nd.lst ds) ∈ kt) (z : FzL K kt ds es) : FrzD K kt a (.lst es) := fun F H nz t => by
  obtain ⟨xs, h, r⟩ := t.ok _ m
  exact ⟨a, xs, rfl, .inl (by rw [thF_in (List.mem_map.mpr ⟨_, m, rfl⟩)]; exact h), z.rp nz t r⟩
theorem frz_d {ds : List (Key × D)} (m : (a, Nd.dic ds) ∈ kt) : FrzD K kt a (.dic ds) := fun F H nz t => by
  obtain ⟨xs, h, r⟩ := t.ok _ m
  exact ⟨a, xs, rfl, .inl (by rw [thF_in (List.mem_map.mpr ⟨_, m, rfl⟩)]; exact h), RpK.mono (thF_sub t.no).exz nz _ _ r⟩
theorem frz_i {ds es : List (Str × D)} (m : (a, Nd.ins C ds) ∈ kt) (z : FzF K kt ds es) : FrzD K kt a (.ins C es) := fun F H nz t => by
  obtain ⟨dx, xs, h, r⟩ := t.ok _ m
  exact ⟨a, dx, xs, rfl, .inl (by rw [thF_in (List.mem_map.mpr ⟨_, m, rfl⟩)]; exact h), z.rp nz t r⟩
end
/-- the slots ro' are those of ro, but for cells that are told as what they stand for -/
structure RoT (K : PySem.W.Frag) (kt : Cells) (ro ro' : Ro) : Prop where
  len : ro'.length = ro.length
  at' : ∀ (i : Nat) (w : W), ro'[i]? = some (some w) → ro[i]? = some (some w) ∨ ∃ (a : Addr) (d : D), w = W.val d ∧ ro[i]? = some (some (W.val (.adr a))) ∧ FrzD K kt a d
section
variable {K : PySem.W.Frag} {B F F0 H H' : Hp} {ro ro' : Ro} {ka k1 k2 k3 kr kt : Cells} {ta tb : List (V × W)} {sg sg' : L2.St} {te tf : TE} {tt : TT} {w x y : W} {n : Nd} {a : Addr} {d : D}
theorem RoT.refl : RoT K kt ro ro := ⟨rfl, fun _ _ h => .inl h⟩
theorem RoT.set {i : Nat} (r : RoT K kt ro ro') (hi : ro[i]? = some (some (.val (.adr a)))) (z : FrzD K kt a d) : RoT K kt ro (ro'.set i (some (.val d))) := ⟨by rw [List.length_set]; exact r.len, fun j w h => by
  rw [List.getElem?_set] at h
  split at h
  · rename_i e
    subst e
    split at h
    · cases h
      exact .inr ⟨a, d, rfl, hi, z⟩
    · cases h
  · exact r.at' j w h⟩
theorem EnF.th_ro (e : EnF K B F ro (k1 ++ kt) ta sg H) (kd : ∀ p ∈ kt, ndK p.2 = true) (r : RoT K kt ro ro') : EnF K (thF B H kt) (thF F H kt) ro' k1 ta sg H := by
  have e1 := e.th_in kd
  refine { e1 with ln := e1.ln.trans r.len.symm, sl := fun i w h => ?_ }
  rcases r.at' i w h with h | ⟨a, d, rfl, h, z⟩
  · exact e1.sl i w h
  · obtain ⟨v, h1, h2⟩ := e1.sl i _ h
    obtain rfl : v = .ref a := h2
    exact ⟨_, h1, z F H e.nz (e.thw kd)⟩
/-- data is told, the cells kt stand behind -/
theorem EvD.thaw {d : D} (h : EvD K te ro' k1 (.val d) k2) (kd : ∀ p ∈ kt, ndK p.2 = true) (r : RoT K kt ro ro') (hd : tI d = true) (h2 : ∀ p ∈ k2, ndI p.2 = true) : EvD K te ro (k1 ++ kt) (.val d) (k2 ++ kt) := fun B F0 ta sg H Q e q => by
  obtain ⟨F, g, e⟩ := e
  refine h (thF B H kt) (thF F H kt) ta sg H _ ⟨_, Gr.refl _ _, e.th_ro kd r⟩ fun v H' ⟨F', g', e'⟩ => q v H' ?_
  obtain ⟨g2, e2⟩ := e.th_out kd g' e' h2 (tc := (v, .val d) :: ta) fun p hp => by
    rcases List.mem_cons.mp hp with rfl | hp
    · exact .inr ⟨d, rfl, hd, List.mem_cons_self⟩
    · exact .inl hp
  exact ⟨_, g.trans g2, e2⟩
theorem EvT.thaw {b : Bool} (h : EvT K tt ro' k1 b k2) (kd : ∀ p ∈ kt, ndK p.2 = true) (r : RoT K kt ro ro') (h2 : ∀ p ∈ k2, ndI p.2 = true) : EvT K tt ro (k1 ++ kt) b (k2 ++ kt) := fun B F0 ta sg H Q e q => by
  obtain ⟨F, g, e⟩ := e
  refine h (thF B H kt) (thF F H kt) ta sg H _ ⟨_, Gr.refl _ _, e.th_ro kd r⟩ fun H' ⟨F', g', e'⟩ => q H' ?_
  obtain ⟨g2, e2⟩ := e.th_out kd g' e' h2 (tc := ta) fun p hp => .inl hp
  exact ⟨_, g.trans g2, e2⟩
theorem EvN.thaw (h : EvN K te ro' k1 n k2) (kd : ∀ p ∈ kt, ndK p.2 = true) (r : RoT K kt ro ro') (hn : ndI n = true) (h2 : ∀ p ∈ k2, ndI p.2 = true) : ∀ B F0 ta sg H (Q : VK), En K B F0 ro (k1 ++ kt) ta sg H → (∀ a H', En K B F0 ro (k2 ++ kt ++ [(a, n)]) ta sg H' → Q (.ref a) H') → te sg H Q := fun B F0 ta sg H Q e q => by
  obtain ⟨F, g, e⟩ := e
  refine h (thF B H kt) (thF F H kt) ta sg H _ ⟨_, Gr.refl _ _, e.th_ro kd r⟩ fun a H' ⟨F', g', e'⟩ => q a H' ?_
  obtain ⟨g2, e2⟩ := e.th_out kd g' e' (k2 := k2 ++ [(a, n)]) (fun p hp => by
    rcases List.mem_append.mp hp with hp | hp
    · exact h2 p hp
    · rw [List.mem_singleton.mp hp]; exact hn) (tc := ta) fun p hp => .inl hp
  refine ⟨_, g.trans g2, e2.perm ?_⟩
  rw [List.append_assoc, List.append_assoc]
  exact List.Perm.append_left _ List.perm_append_comm
theorem EvN.thawN (h : EvN K te ro' k1 n k2) (kd : ∀ p ∈ kt, ndK p.2 = true) (r : RoT K kt ro ro') (hn : ndI n = true) (h2 : ∀ p ∈ k2, ndI p.2 = true) : EvN K te ro (k1 ++ kt) n (k2 ++ kt) := h.thaw kd r hn h2
/-- what a word tells: data, and cells, that read no cell -/
theorem EvR.thaw {P : W → Cells → Prop} (h : EvR K te ro' k1 P) (kd : ∀ p ∈ kt, ndK p.2 = true) (r : RoT K kt ro ro') (hP : ∀ w k, P w k → (∃ d, w = .val d ∧ tI d = true) ∧ ∀ p ∈ k, ndI p.2 = true) : EvR K te ro (k1 ++ kt) (fun w k => ∃ k0, P w k0 ∧ k = k0 ++ kt) := fun B F0 ta sg H Q e q => by
  obtain ⟨F, g, e⟩ := e
  refine h (thF B H kt) (thF F H kt) ta sg H _ ⟨_, Gr.refl _ _, e.th_ro kd r⟩ fun w k v H' p ⟨F', g', e'⟩ => ?_
  obtain ⟨⟨d, rfl, hd⟩, hk⟩ := hP w k p
  obtain ⟨g2, e2⟩ := e.th_out kd g' e' hk (tc := (v, .val d) :: ta) fun p hp => by
    rcases List.mem_cons.mp hp with rfl | hp
    · exact .inr ⟨d, rfl, hd, List.mem_cons_self⟩
    · exact .inl hp
  exact q _ _ v H' ⟨k, p, rfl⟩ ⟨_, g.trans g2, e2⟩
/-- te raises -/
theorem EvX.thaw {E : XK} {C1 : Addr} {gs : List (Str × D)} (h : EvX K te ro' k1 E C1 gs k2) (kd : ∀ p ∈ kt, ndK p.2 = true) (r : RoT K kt ro ro') (hg : (gs.all fun p => tI p.2) = true) (h2 : ∀ p ∈ k2, ndI p.2 = true) : EvX K te ro (k1 ++ kt) E C1 gs (k2 ++ kt) := fun B F0 ta sg H Q e q => by
  obtain ⟨F, g, e⟩ := e
  refine h (thF B H kt) (thF F H kt) ta sg H _ ⟨_, Gr.refl _ _, e.th_ro kd r⟩ fun dx H' ⟨F', g', e'⟩ => q dx H' ?_
  obtain ⟨g2, e2⟩ := e.th_out kd g' e' (k2 := k2 ++ [(dx, .xd gs)]) (fun p hp => by
    rcases List.mem_append.mp hp with hp | hp
    · exact h2 p hp
    · rw [List.mem_singleton.mp hp]; exact hg) (tc := ta) fun p hp => .inl hp
  refine ⟨_, g.trans g2, e2.perm ?_⟩
  rw [List.append_assoc, List.append_assoc]
  exact List.Perm.append_left _ List.perm_append_comm
end
end DL

/-! EM: in and bool by an own class's methods; d.pop(k) (own work). -/
namespace DL
open PySem PySem.Spec PyProof.Rows L2 PySem.W
section
variable {X : Cx} {CX : CXT} {k : Nat} {C f : Addr} {fd : FuncData} {ps : List Str} {sp : Sp} {E : XK}
/-- x in o, o of the class at C -/
abbrev rOwnIn (C : Addr) (neg : Bool) (sp : Sp) (E : XK) : R2 := fun x y H Q => ∃ a dx fs, y = .ref a ∧ H a = some (.ins C dx fs) ∧ sp [.ref a, x] H (fun v H' => ∃ b : Bool, v = .bl b ∧ Q (.bl (if neg then !b else b)) H') E
theorem in_own (m : Sm X.K C "__contains__" f) (F : FnOk X.prog X.w X.K X.mg X.base CX k f fd ps sp) (hr : Room k X.A) (hb : Binds X.K fd ps []) (hx : Passes CX X E) : OpR X (compareOp .In) (rOwnIn C false sp E) := by
  intro pins s sg H x y v u Q I rx ry h
  obtain ⟨a, dx, fs, rfl, ha, h⟩ := h
  cases ry
  obtain ⟨od, J⟩ := inst_at I ha
  obtain ⟨m1, hF⟩ := I.fr
  refine in_K hF I.ok.mod.kin J m.at_ m.fn (wpAny_mono (run_fn F hr rfl hb hx I (.cons (show RelV (.ref a) (.ref a) from rfl) (.cons rx .nil)) h) (fun r s' hq => ?_) fun _ _ z => z)
  obtain ⟨t, H', I', rt, b, rfl, q⟩ := hq
  cases rt
  exact wpAny_truthy_bool ⟨.bl b, H', I', rfl, q⟩
theorem ni_own (m : Sm X.K C "__contains__" f) (F : FnOk X.prog X.w X.K X.mg X.base CX k f fd ps sp) (hr : Room k X.A) (hb : Binds X.K fd ps []) (hx : Passes CX X E) : OpR X (compareOp .NotIn) (rOwnIn C true sp E) := by
  intro pins s sg H x y v u Q I rx ry h
  obtain ⟨a, dx, fs, rfl, ha, h⟩ := h
  cases ry
  obtain ⟨od, J⟩ := inst_at I ha
  obtain ⟨m1, hF⟩ := I.fr
  refine notIn_K hF I.ok.mod.kin J m.at_ m.fn (wpAny_mono (run_fn F hr rfl hb hx I (.cons (show RelV (.ref a) (.ref a) from rfl) (.cons rx .nil)) h) (fun r s' hq => ?_) fun _ _ z => z)
  obtain ⟨t, H', I', rt, b, rfl, q⟩ := hq
  cases rt
  exact wpAny_truthy_bool ⟨.bl (!b), H', I', rfl, q⟩
/-- what bool of an object asks -/
theorem new_bool_own {prog : Program} {w : World} (a : Addr) : MeetsIn prog w (Builtin.«bool.__new__» ⟨[.type "bool", .ref a], []⟩) (fun A R s => wpAny (model prog w) A.in1 (truthy (.ref a)) (fun b s' => R (.ok (.ret (.bool b))) s') (fun e s' => R (.error e) s') s) :=
  .of_wp fun A R s h => by
    have f1 := F.conv_sub_bool
    repeat (any_goals (first | assumption | (with_reducible refine wpAny_mono h (fun b s' hb => ?_) fun _ _ z => z) | wp_step))
    all_goals first | exact ⟨_, rfl, hb⟩ | exact hb | skip
/-- bool(o) -/
theorem bool_own (m : Sm X.K C "__bool__" f) (F : FnOk X.prog X.w X.K X.mg X.base CX k f fd ps sp) (hr : Room (k + 2) X.A) (hb : Binds X.K fd ps []) (hx : Passes CX X E) :
    CallR X (.type "bool") (fun xs H Q => ∃ a dx fs, xs = [.ref a] ∧ H a = some (.ins C dx fs) ∧ sp [.ref a] H (fun v H' => ∃ b : Bool, v = .bl b ∧ Q (.bl b) H') E) := by
  intro pins s sg H xs us Q I rv h
  obtain ⟨a, dx, fs, rfl, ha, h⟩ := h
  obtain rfl := Vals.ref1 rv
  obtain ⟨od, J⟩ := inst_at I ha
  obtain ⟨m1, hF⟩ := I.fr
  refine callType_newIn PySem.F.called_bool PySem.F.newNe_bool (PySem.F.typeCall_bool_1 _) (PySem.F.newCall_bool_1 _) (fun obj => PySem.F.args_object_init_2 obj _) PySem.F.entry_bool_new (new_bool_own a) ?_
  refine truthy_K hF I.ok.mod.kin J m.at_ m.fn (wpAny_mono (run_fn F hr.in1.in1 rfl hb hx I (.cons (show RelV (.ref a) (.ref a) from rfl) .nil) h) (fun r s' hq => ?_) fun _ _ z => z)
  obtain ⟨t, H', I', rt, b, rfl, q⟩ := hq
  cases rt
  exact ⟨rfl, .bl b, H', I', rfl, q⟩
end
end DL
namespace DL
open PySem L2 PySem.W
section
variable {X : Cx} {k : Nat} {C f : Addr} {ps : List Str} {E : XK} {Ct' : Ct}
theorem in_ow (m : Sm X.K C "__contains__" f) (F : Fn X.prog X.w X.K X.mg X.base k f ps Ct') (hr : Room k X.A) (hx : Passes (L2.CX X.prog X.w) X E) : OpR X (compareOp .In) (rOwnIn C false (spC X.K Ct') E) := by
  obtain ⟨fd, F, b⟩ := F
  exact in_own m F hr b hx
theorem ni_ow (m : Sm X.K C "__contains__" f) (F : Fn X.prog X.w X.K X.mg X.base k f ps Ct') (hr : Room k X.A) (hx : Passes (L2.CX X.prog X.w) X E) : OpR X (compareOp .NotIn) (rOwnIn C true (spC X.K Ct') E) := by
  obtain ⟨fd, F, b⟩ := F
  exact ni_own m F hr b hx
abbrev rBoolO (C : Addr) (sp : Sp) (E : XK) : List V → Hp → VK → Prop := fun xs H Q => ∃ a dx fs, xs = [.ref a] ∧ H a = some (.ins C dx fs) ∧ sp [.ref a] H (fun v H' => ∃ b : Bool, v = .bl b ∧ Q (.bl b) H') E
theorem bool_ow (m : Sm X.K C "__bool__" f) (F : Fn X.prog X.w X.K X.mg X.base k f ps Ct') (hr : Room (k + 2) X.A) (hx : Passes (L2.CX X.prog X.w) X E) : CallR X (.type "bool") (rBoolO C (spC X.K Ct') E) := by
  obtain ⟨fd, F, b⟩ := F
  exact bool_own m F hr b hx
end
section
variable {K : PySem.W.Frag} {B F0 : Hp} {ro : Ro} {ka k1 k2 kr : Cells} {ta : List (V × W)} {te tf td ty : TE} {x y : W} {C a : Addr} {fs : List (Str × D)} {b : Bool} {E : XK} {De : Ends} {u : TS}
theorem rv_ownIn {Cc : Ct} {neg c : Bool} (kr : Cells) (l : Io (k1 ++ kr) y C fs b) (hC : Cc [y, x] k1 (Rt (.bl c) k1)) : RvD K (rOwnIn C neg (spC K Cc) E) (k1 ++ kr) x y (.val (.bl (if neg then !c else c))) := fun B F0 ro ta sg H u v Q e h1 h2 q => by
  obtain ⟨a, dx, xs, rfl, ha⟩ := l.en e h2
  refine ⟨a, dx, xs, rfl, ha, sp_ret (ws := [y, x]) (ta := ta) (e.held fun p hp => ?_) rfl hC (fun _ _ z => z) fun v2 H' e2 => ?_⟩
  · rcases List.mem_append.mp hp with hp | hp
    · simp at hp
      rcases hp with rfl | rfl
      · exact h2
      · exact h1
    · exact hp
  · obtain rfl := e2.tm_bl List.mem_cons_self
    exact ⟨c, rfl, q _ _ (e2.pop.push_imm fun _ => rfl)⟩
theorem ev_inO {Cc : Ct} {c : Bool} (h : EvD K te ro ka x k1) (h2 : EvD K tf ro k1 y k2) (l : Io k2 y C fs b) (hC : Cc [y, x] [] (Rt (.bl c) [])) : EvD K (tOp (rOwnIn C false (spC K Cc) E) te tf) ro ka (.val (.bl c)) k2 := ev_op h h2 (rv_ownIn (neg := false) (k1 := []) k2 l hC)
theorem ev_niO {Cc : Ct} {c : Bool} (h : EvD K te ro ka x k1) (h2 : EvD K tf ro k1 y k2) (l : Io k2 y C fs b) (hC : Cc [y, x] [] (Rt (.bl c) [])) : EvD K (tOp (rOwnIn C true (spC K Cc) E) te tf) ro ka (.val (.bl (!c))) k2 := ev_op h h2 (rv_ownIn (neg := true) (k1 := []) k2 l hC)
theorem rc_boolO {Cc : Ct} {c : Bool} (kr : Cells) (l : Io (k1 ++ kr) x C fs b) (hC : Cc [x] k1 (Rt (.bl c) k1)) : RcD K (rBoolO C (spC K Cc) E) (k1 ++ kr) [x] (.val (.bl c)) := fun B F0 ro ta sg H us Q e hl hm q => by
  obtain ⟨u, rfl, hu⟩ := zip_one hl hm
  obtain ⟨a, dx, xs, rfl, ha⟩ := l.en e hu
  refine ⟨a, dx, xs, rfl, ha, sp_ret (ws := [x]) (ta := ta) (e.held fun p hp => ?_) rfl hC (fun _ _ z => z) fun v2 H' e2 => ?_⟩
  · rcases List.mem_append.mp hp with hp | hp
    · simp at hp
      rcases hp with rfl
      exact hu
    · exact hp
  · obtain rfl := e2.tm_bl List.mem_cons_self
    exact ⟨c, rfl, q _ _ e2⟩
theorem ev_boolO {Cc : Ct} {c : Bool} (h : EvD K te ro ka x k1) (l : Io k1 x C fs b) (hC : Cc [x] [] (Rt (.bl c) [])) : EvD K (tCB (rBoolO C (spC K Cc) E) (tCons te tNil)) ro ka (.val (.bl c)) k1 := ev_cb (ea1 h) (rc_boolO (k1 := []) k1 l hC)
/-- d.pop(text), what it tells dropped -/
theorem g_dpop {s : Str} {d : D} {j : Nat} {ds : List (Key × D)} (ho : EvD K td ro ka (.val (.adr a)) k1) (h0 : ∃ (j0 : Nat) (ds0 : List (Key × D)), k1[j0]? = some (a, Nd.dic ds0)) (he : EvD K ty ro k1 (.val (.str s)) k2) (hj : k2[j]? = some (a, .dic ds)) (hd : getT ds (.inr s) = some d)
    (k : Gp K B F0 ta De.nx ro (k2.set j (a, .dic (dropT ds (.inr s))))) : Gp K B F0 ta (tDrop (tDPop1 td ty) De) ro ka := fun sg H e => by
  refine ho B F0 ta sg H _ e fun u H1 e1 => ?_
  obtain rfl := e1.tm_adr (v := u) (a := a) List.mem_cons_self
  obtain ⟨j0, ds0, h0⟩ := h0
  refine ⟨a, rfl, ?_, he B F0 _ sg H1 _ e1 fun v H2 e2 => ?_⟩
  · obtain ⟨_, _, _, xs, hx, _⟩ := e1.cellAt h0
    exact .inl ⟨xs, .inl hx⟩
  · obtain rfl := e2.tm_str (v := v) (i := s) List.mem_cons_self
    obtain ⟨F, g, ef, xs, hx, rx⟩ := e2.cellAt hj
    obtain ⟨z, hz, _⟩ := ((rpk_pt.mp rx).get (.inr s)).2 d hd
    refine ⟨xs, .inr s, z, hx, rfl, hz, k _ _ ⟨F, g, ?_⟩⟩
    exact (ef.write (o := .dK (dropK xs (.inr s))) (n' := .dic (dropT ds (.inr s))) hj ⟨_, upd_same, rpk_pt.mpr ((rpk_pt.mp rx).drop (.inr s))⟩).held fun p hp => List.mem_cons_of_mem _ (List.mem_cons_of_mem _ hp)
theorem q_dpop {s : Str} {d : D} {j : Nat} {ds : List (Key × D)} (ho : EvD K td ro ka (.val (.adr a)) k1) (h0 : ∃ (j0 : Nat) (ds0 : List (Key × D)), k1[j0]? = some (a, Nd.dic ds0)) (he : EvD K ty ro k1 (.val (.str s)) k2) (hj : k2[j]? = some (a, .dic ds)) (hd : getT ds (.inr s) = some d)
    (k : Gp K B F0 ta (u De) ro (k2.set j (a, .dic (dropT ds (.inr s))))) : Gp K B F0 ta (tSeq (tDrop (tDPop1 td ty)) u De) ro ka := g_dpop (De := { De with nx := u De }) ho h0 he hj hd k
end
end DL
namespace DL
open PySem L2 PySem.W
/-- a def with defaults, called without them or with all -/
def FnE (P : Program) (w : World) (K : PySem.W.Frag) (mg : Str → Option Value) (base : Heap) (k : Nat) (f : Addr) (ps : List Str) (dvs : List V) (C : Ct) : Prop :=
  ∃ fd, FnOk P w K mg base (L2.CX P w) k f fd ps (spC K C) ∧ (∃ ds, Vals dvs ds ∧ Binds K fd ps ds) ∧ ∃ ds, Vals [] ds ∧ Binds K fd ps ds
section
variable {P : Program} {w : World} {K : PySem.W.Frag} {mg : Str → Option Value} {base : Heap} {k : Nat} {f : Addr} {ps N : List Str} {dvs : List V} {C : Ct} {x qual : Str} {params : Arguments} {body : List Stmt} {scope : Scope} {fd : FuncData}
theorem FnE.d (F : FnE P w K mg base k f ps dvs C) : FnD P w K mg base k f ps dvs C := let ⟨fd, a, b, _⟩ := F; ⟨fd, a, b⟩
theorem FnE.a (F : FnE P w K mg base k f ps dvs C) : Fn P w K mg base k f ps C := by
  obtain ⟨fd, a, _, ds, v, b⟩ := F
  cases v
  exact ⟨fd, a, b⟩
theorem fn_okE (F : FunD K x qual params body scope dvs [] f fd) (S : FnScope N ps scope) (hb : ∃ ds, Vals dvs ds ∧ Binds K fd ps ds) (hb2 : ∃ ds, Vals [] ds ∧ Binds K fd ps ds) (hl : ∀ ws ka out, C ws ka out → ws.length = ps.length)
    (h : ∀ (cdv : Value) (A : Around) (outer : List Env) (s : Shared) (H : Hp) (E : XK), Room k (A.deeper (PyProof.Rows.envOfC qual scope s.heap.objs.size f cdv)) →
      ∃ t, PSs (cxOf (L2.CX P w) P w K mg base N qual scope f cdv A outer s H E) body t ∧
        ∀ ws ka out B F0 Q, C ws ka out → RtOk K B F0 out Q → RxOk K B F0 out E → Gp K B F0 [] (t { nx := fun _ H' => Q .non H', rt := Q }) (ws.map some ++ List.replicate (N.length - ps.length) none) ka) : FnE P w K mg base (k + 1) f ps dvs C := by
  exact ⟨fd, fn_okG F S hl h, hb, hb2⟩
end
end DL
namespace DL
open PySem L2 PySem.W
/-- an own error that the law never raises: nothing is said of its __init__ -/
def spF : Sp := fun _ _ _ _ => False
structure Xf (P : Program) (w : World) (K : PySem.W.Frag) (mg : Str → Option Value) (base : Heap) (C : Addr) : Prop where
  xc : Xc K C
  ex : ∃ fI fd ps, findIn K (.ref C) "__init__" = some (some (.ref fI)) ∧ typeIn K (.ref fI) = some (.type "function") ∧ FnOk P w K mg base (L2.CX P w) 1 fI fd ps spF ∧ Binds K fd ps []
namespace Xf
variable {P : Program} {w : World} {K : PySem.W.Frag} {mg : Str → Option Value} {base : Heap} {C : Addr}
noncomputable def fI (Z : Xf P w K mg base C) : Addr := Classical.choose Z.ex
noncomputable def fd (Z : Xf P w K mg base C) : FuncData := Classical.choose (Classical.choose_spec Z.ex)
noncomputable def px (Z : Xf P w K mg base C) : List Str := Classical.choose (Classical.choose_spec (Classical.choose_spec Z.ex))
theorem all (Z : Xf P w K mg base C) : findIn K (.ref C) "__init__" = some (some (.ref Z.fI)) ∧ typeIn K (.ref Z.fI) = some (.type "function") ∧ FnOk P w K mg base (L2.CX P w) 1 Z.fI Z.fd Z.px spF ∧ Binds K Z.fd Z.px [] :=
  Classical.choose_spec (Classical.choose_spec (Classical.choose_spec Z.ex))
end Xf
theorem initF_ok {P : Program} {w : World} {K : PySem.W.Frag} {mg : Str → Option Value} {base : Heap} {f : Addr} {fd : FuncData} {nm qual : Str} {N ps : List Str} {params : Arguments} {body : List Stmt} {scope : Scope} {k : Nat}
    (F : FunD K nm qual params body scope [] [] f fd) (S : FnScope N ps scope) : FnOk P w K mg base (L2.CX P w) (k + 1) f fd ps spF := F.ok S (fun _ _ _ _ h => h.elim) fun _ _ _ _ _ _ _ _ _ h => h.elim
end DL

/-! EN: any cells frozen for good, returns by a word, orders of cells (own work). -/
namespace DL
open PySem L2 PySem.W
section
variable {K : PySem.W.Frag} {B F F0 H : Hp} {ro ro' : Ro} {ka kb k1 k2 k3 kr kt : Cells} {ta : List (V × W)} {sg : L2.St} {te : TE} {tt : TT} {w : W} {n : Nd} {P : L2.St → Hp → Prop} {De : Ends} {b : Bool} {Q : W → Cells → Prop}
theorem EnF.frzT (e : EnF K B F ro (k1 ++ kt) ta sg H) (kd : ∀ p ∈ kt, ndK p.2 = true) (r : RoT K kt ro ro') : Gr B F (thF F H kt) ∧ EnF K B (thF F H kt) ro' k1 ta sg H := by
  have e1 := e.th_ro kd r
  have t := e.thw kd
  have hu : uni (thF B H kt) (thF F H kt) = uni B (thF F H kt) := funext fun a => by
    unfold uni
    by_cases m : a ∈ kt.map (·.1)
    · obtain ⟨p, hp, rfl⟩ := List.mem_map.mp m
      obtain ⟨o, ho, _⟩ := ndok_kind (t.ok p hp) (kd p hp)
      rw [thF_in m, ho]
    · rw [thF_out (F := B) m]
  have hw : ∀ v w, WOk K (thF B H kt) (thF F H kt) v w → WOk K B (thF F H kt) v w := fun v w h => by
    cases w with
    | val d => exact h
    | vw d =>
      show Rp K (uni B _) d v
      rw [← hu]
      exact h
  exact ⟨t.gr e.thB, e1.nz, e1.fz, e.fr, e1.nd, fun p hp => ⟨(e1.ce p hp).1, (e.ce p (List.mem_append_left _ hp)).2.1, (e1.ce p hp).2.2⟩, e1.ln, fun i w h => let ⟨v, a, b⟩ := e1.sl i w h; ⟨v, a, hw _ _ b⟩, fun p hp => hw _ _ (e1.tm p hp)⟩
/-- the cells kt are frozen, with what stands behind them -/
theorem Gp.frzT (kt : Cells) (hp : (kr ++ kt).Perm ka) (kd : ∀ p ∈ kt, ndK p.2 = true) (r : RoT K kt ro ro') (h : Gp K B F0 ta P ro' kr) : Gp K B F0 ta P ro ka := fun sg H e => by
  obtain ⟨F, g, e⟩ := e.perm hp
  obtain ⟨g2, e2⟩ := e.frzT kd r
  exact h sg H ⟨_, g.trans g2, e2⟩
/-- a return of which a word tells -/
theorem g_retE {out : Oc} (hr : RtOk K B F0 out De.rt) (h : EvR K te ro ka Q) (o : ∀ w k, Q w k → ∃ d, w = .val d ∧ out (.ret d) k) : Gp K B F0 ta (tRet te De) ro ka := fun sg H e => h B F0 ta sg H _ e fun w k v H' q e' => by
  obtain ⟨d, rfl, ho⟩ := o w k q
  exact hr d k v H' ho e'.leave
theorem EvD.pm (h : EvD K te ro k1 w k2) (s1 : k1.Perm ka) (s2 : k2.Perm kb) : EvD K te ro ka w kb := fun B F0 ta sg H Q e q => h B F0 ta sg H Q (e.perm s1) fun v H' e' => q v H' (e'.perm s2.symm)
theorem EvT.pm (h : EvT K tt ro k1 b k2) (s1 : k1.Perm ka) (s2 : k2.Perm kb) : EvT K tt ro ka b kb := fun B F0 ta sg H Q e q => h B F0 ta sg H Q (e.perm s1) fun H' e' => q H' (e'.perm s2.symm)
theorem EvR.pm (h : EvR K te ro k1 Q) (s1 : k1.Perm ka) : EvR K te ro ka Q := fun B F0 ta sg H Q e q => h B F0 ta sg H Q (e.perm s1) q
theorem EvR.fr {P2 : W → Cells → Prop} (h : EvR K te ro k1 P2) (kr : Cells) (hP : ∀ w k, P2 w k → ∃ d, w = .val d) : EvR K te ro (k1 ++ kr) (fun w k => ∃ k0, P2 w k0 ∧ k = k0 ++ kr) := fun B F0 ta sg H Q e q => by
  obtain ⟨F, g, e⟩ := e
  refine h (off H k1) F [] sg H _ ⟨F, Gr.refl _ _, e.into e.ln (fun i w h => e.sl i w h) (fun p hp => by cases hp)⟩ fun w k v H' p e' => ?_
  obtain ⟨F', g', e'⟩ := e'
  obtain ⟨d, rfl⟩ := hP w k p
  obtain ⟨g2, e2⟩ := e.back g' e' (tb := (v, .val d) :: ta) fun p hp => by
    rcases List.mem_cons.mp hp with rfl | hp
    · exact .inr ⟨d, rfl, List.mem_cons_self⟩
    · exact .inl hp
  exact q _ _ v H' ⟨k, p, rfl⟩ ⟨F', g.trans g2, e2⟩
end
end DL
namespace DL
open PySem L2 PySem.W
section
variable {K : PySem.W.Frag} {ro : Ro} {ka k1 k2 : Cells} {ty td : TE} {P : W → Cells → Prop}
/-- text not in d, d told by a word -/
theorem ev_dniR {s : Str} {bb : Bool} (h : EvD K ty ro ka (.val (.str s)) k1) (h2 : EvR K td ro k1 P) (hP : ∀ w k, P w k → k = k2 ∧ ∃ ds b, Dk k w ds b ∧ (getT ds (.inr s)).isSome = bb) : EvD K (tDNotIn ty td) ro ka (.val (.bl (!bb))) k2 := fun B F0 ta sg H Q e q =>
  h B F0 ta sg H _ e fun u H1 e1 => h2 B F0 _ sg H1 _ e1 fun w k v H2 p e2 => by
    obtain ⟨rfl, ds, b, l, hb⟩ := hP w k p
    obtain rfl := e2.tm_str (v := u) (i := s) (List.mem_cons_of_mem _ List.mem_cons_self)
    obtain ⟨F, a, xs, g, ef, rfl, h3, h4⟩ := e2.dk l List.mem_cons_self
    have hg := (rpk_pt.mp h4).get (.inr s)
    have hx : (getT xs (.inr s)).isSome = bb := by
      rw [← hb]
      cases hd : getT ds (.inr s) with
      | none => rw [hg.1 hd]; rfl
      | some d => obtain ⟨x, hx, _⟩ := hg.2 d hd; rw [hx]; rfl
    refine ⟨a, getT xs (.inr s), rfl, .inl ⟨xs, .inr s, h3, rfl, rfl⟩, q _ _ ?_⟩
    rw [hx]
    exact (e2.held (ta' := ta) fun p hp => List.mem_cons_of_mem _ (List.mem_cons_of_mem _ hp)).push_imm fun _ => rfl
end
end DL
namespace DL
open PySem L2 PySem.W
/-- a test of whose end a word tells -/
def EvTR (K : PySem.W.Frag) (tt : TT) (ro : Ro) (ka : Cells) (R : Bool → Cells → Prop) : Prop := ∀ B F0 ta sg H (Q : Bool → Hp → Prop), En K B F0 ro ka ta sg H → (∀ b k H', R b k → En K B F0 ro k ta sg H' → Q b H') → tt sg H Q
section
variable {K : PySem.W.Frag} {B F0 : Hp} {ro : Ro} {ka k1 k2 : Cells} {ta : List (V × W)} {tt tu : TT} {De : Ends} {t t' u : TS} {R : Bool → Cells → Prop} {a b : Bool}
theorem q_whenR (h : EvTR K tt ro ka R) (h1 : ∀ k, R true k → Gp K B F0 ta (t { De with nx := u De }) ro k) (h2 : ∀ k, R false k → Gp K B F0 ta (u De) ro k) : Gp K B F0 ta (tSeq (tIfS tt t tNext) u De) ro ka := fun sg H e => h B F0 ta sg H _ e fun b k H' r e' => by
  cases b with
  | true => exact h1 k r sg H' e'
  | false => exact h2 k r sg H' e'
theorem g_ifR (h : EvTR K tt ro ka R) (h1 : ∀ k, R true k → Gp K B F0 ta (t De) ro k) (h2 : ∀ k, R false k → Gp K B F0 ta (t' De) ro k) : Gp K B F0 ta (tIfS tt t t' De) ro ka := fun sg H e => h B F0 ta sg H _ e fun b k H' r e' => by
  cases b with
  | true => exact h1 k r sg H' e'
  | false => exact h2 k r sg H' e'
theorem etr_or (h : EvT K tt ro ka a k1) (hT : a = true → R true k1) (h2 : a = false → EvTR K tu ro k1 R) : EvTR K (tOr tt tu) ro ka R := fun B F0 ta sg H Q e q => h B F0 ta sg H _ e fun H' e' => by
  cases a with
  | true => exact q true k1 H' (hT rfl) e'
  | false => exact h2 rfl B F0 ta sg H' Q e' q
theorem etr_and (h : EvT K tt ro ka a k1) (hF : a = false → R false k1) (h2 : a = true → EvTR K tu ro k1 R) : EvTR K (tAnd tt tu) ro ka R := fun B F0 ta sg H Q e q => h B F0 ta sg H _ e fun H' e' => by
  cases a with
  | false => exact q false k1 H' (hF rfl) e'
  | true => exact h2 rfl B F0 ta sg H' Q e' q
theorem EvT.toTR (h : EvT K tt ro ka a k1) (r : R a k1) : EvTR K tt ro ka R := fun B F0 ta sg H Q e q => h B F0 ta sg H _ e fun H' e' => q a k1 H' r e'
end
def toS : D → Str
  | .str s => s
  | _ => ""
theorem stD_perm {ds : List D} {ss : List Str} (h : ds.Perm (stD ss)) : ∃ ws, ds = stD ws ∧ ws.Perm ss := by
  refine ⟨ds.map toS, ?_, ?_⟩
  · unfold stD
    rw [List.map_map]
    refine (List.map_id ds).symm.trans (List.map_congr_left fun d hd => ?_)
    obtain ⟨s, _, rfl⟩ := List.mem_map.mp (h.mem_iff.mp hd)
    rfl
  · have := h.map toS
    unfold stD at this
    rw [List.map_map] at this
    rwa [show (toS ∘ D.str) = id from rfl, List.map_id] at this
end DL
namespace DL
open PySem L2 PySem.W
section
variable {K : PySem.W.Frag} {ro : Ro} {ka k1 k2 : Cells} {te : TE} {tr : TA} {C C1 : Addr} {gs : List (Str × D)} {E : XK} {ws : List W} {Cc : Ct}
/-- C(..) raises -/
theorem evx_mk {E' : XK} (ha : EvA K tr ro ka ws k1) (hC : ∀ a, Cc (.val (.adr a) :: ws) (k1 ++ [(a, .ins C [])]) (Xt C1 gs k2)) (hE : E' = E) : EvX K (tMake C (spC K Cc) [] E' tr) ro ka E C1 gs k2 := fun B F0 ta sg H Q e q => by
  subst hE
  exact evx_make ha (fun a => ⟨_, hC a, fun _ _ z => z⟩) e q
theorem evx0_mk {E' : XK} (ha : EvA K tr ro ka ws k1) (hC : ∀ a, Cc (.val (.adr a) :: ws) (k1 ++ [(a, .ins C [])]) (X0 C1 k2)) (hE : E' = E) : EvX0 K (tMake C (spC K Cc) [] E' tr) ro ka E C1 k2 := fun B F0 ta sg H Q e q => by
  subst hE
  refine ha B F0 ta sg H _ e fun vs H1 hl e1 => ?_
  intro x dx hx hd hne
  rw [List.append_nil]
  obtain ⟨F, g, e1⟩ := e1
  obtain ⟨e2, g2⟩ := e1.lay (o := .own x) hd rfl
  have hx2 : upd H1 dx (.own x) x = none := by rw [upd_ne (Ne.symm hne)]; exact hx
  have e3 := e2.cell (o := .ins C dx []) hx2 (n := .ins C []) ⟨dx, [], upd_same, rfl⟩
  have e4 := e3.push (v := .ref x) (w := .val (.adr x)) rfl
  have e5 : En K B F0 ro ((k1 ++ [(x, .ins C [])]) ++ []) ((V.ref x :: vs).zip (W.val (.adr x) :: ws) ++ ta) sg (upd (upd H1 dx (.own x)) x (.ins C dx [])) := by
    rw [List.append_nil]
    exact ⟨_, g.trans g2, e4⟩
  refine sp_exc0 e5 (by rw [List.length_cons, List.length_cons, hl]) (hC x) (fun _ _ z => z) fun H' e6 => ?_
  rw [List.append_nil] at e6
  exact q H' e6
theorem evx0_prop {C2 : Addr} {E' : XK} (h : EvX0 K te ro ka E C1 k2) : EvX0 K (tProp C2 (spC K Cc) [] E' te) ro ka E C1 k2 := fun B F0 ta sg H Q e q => h B F0 ta sg H _ e q
theorem evx0_lst (h : EvX0 K te ro ka E C1 k2) : EvX0 K (tLst (tCons te tr)) ro ka E C1 k2 := fun B F0 ta sg H Q e q => h B F0 ta sg H _ e q
end
end DL
namespace DL
open PySem L2 PySem.W
section
variable {K : PySem.W.Frag} {ro : Ro} {ka k1 k2 : Cells} {te : TE} {tt : TT} {C : Addr} {fs : List (Str × D)} {b : Bool} {w : W} {E : XK} {Cc : Ct} {P : W → Cells → Prop} {R : Bool → Cells → Prop}
theorem evr_prop {out : Oc} (kr : Cells) (h : EvD K te ro ka w (k1 ++ kr)) (l : Io (k1 ++ kr) w C fs b) (hC : Cc [w] k1 out) (ho : ∀ o k, out o k → ∃ d, o = .ret d) : EvR K (tProp C (spC K Cc) [] E te) ro ka (fun w' k => ∃ d k3, out (.ret d) k3 ∧ w' = .val d ∧ k = k3 ++ kr) := fun B F0 ta sg H Q e q => h B F0 ta sg H _ e fun u H1 e1 => by
  obtain ⟨a, dx, xs, rfl, ha⟩ := l.en e1 List.mem_cons_self
  exact ⟨a, dx, xs, rfl, ha, sp_rel (vs := [.ref a]) (ws := [w]) (ta := ta) e1 rfl hC ho fun d k3 v3 H' o e3 => q _ _ v3 H' ⟨d, k3, o, rfl, rfl⟩ e3⟩
theorem etR_B (h : EvR K te ro ka P) (hP : ∀ w k, P w k → ∃ c, w = .val (.bl c) ∧ R c k) : EvTR K (tB te) ro ka R := fun B F0 ta sg H Q e q => h B F0 ta sg H _ e fun w k v H' p e' => by
  obtain ⟨c, rfl, r⟩ := hP w k p
  exact ⟨c, e'.tm_bl List.mem_cons_self, q c k H' r e'.pop⟩
theorem etR_not (h : EvTR K tt ro ka fun b k => R (!b) k) : EvTR K (tNot tt) ro ka R := fun B F0 ta sg H Q e q => h B F0 ta sg H _ e fun b k H' r e' => q (!b) k H' r e'
/-- a built-in of something told by a word; what it made is forgotten -/
theorem ev_cbR {r : List V → Hp → VK → Prop} {z : W} (h : EvR K te ro ka P) (hP : ∀ w k, P w k → RcD K r k [w] z ∧ k2.Sublist k) : EvD K (tCB r (tCons te tNil)) ro ka z k2 := fun B F0 ta sg H Q e q =>
  h B F0 ta sg H _ e fun w k v H1 p e1 => by
    obtain ⟨hr, hs⟩ := hP w k p
    refine hr B F0 ro ((v, w) :: ta) sg H1 [v] Q e1 rfl (fun p hp => ?_) fun t H' e' => q t H' ?_
    · rcases List.mem_cons.mp hp with rfl | hp
      · exact List.mem_cons_self
      · cases hp
    · exact (e'.less hs).held fun p hp => by
        rcases List.mem_cons.mp hp with rfl | hp
        · exact List.mem_cons_self
        · exact List.mem_cons_of_mem _ (List.mem_cons_of_mem _ hp)
end
end DL

/-! EO: the head's look, from the names that a text wants alone (own work). -/
namespace DL
open PySem L2 PySem.W
/-- the addresses that are not yet in the mask m, each once -/
def freshA {α : Type} : List Addr → Nat → List Addr → (List Addr → Nat → α) → α
  | [], m, acc, k => k acc m
  | a :: r, m, acc, k => HandSHeadRun.frNat a fun b => if Nat.beq ((m >>> b) % 2) 1 then freshA r m acc k else HandSHeadRun.frNat (m + (1 <<< b)) fun m2 => freshA r m2 (b :: acc) k
/-- what these reach in n steps -/
def walkA (g : Addr → Option Obj) : Nat → Nat → List Addr → List Addr → List Addr
  | 0, _, _, all => all
  | n + 1, m, fr, all => freshA (fr.flatMap fun a => match g a with
      | some o => He.refsD o
      | none => []) m [] fun new m2 => walkA g n m2 new (all ++ new)
def rootsA (g : Addr → Option Obj) (nm : List Str) : List Addr := nm.filterMap fun x => match nsIn (He.frG g [mainGlobals]) mainGlobals x with
  | some (some (.ref a)) => some a
  | _ => none
def asZ (g : Addr → Option Obj) (nm : List Str) (n : Nat) : List Addr := freshA (rootsA g nm) ((1 <<< mainGlobals) ||| (1 <<< builtinsNs)) [] fun rs m => mainGlobals :: walkA g n m rs rs
def obsZG (n : Nat) (nm : List Str) (ex : List Fx) (fn : List Df) (g : Addr → Option Obj) : AlY := lookY ex fn (He.frG g (asZ g nm n))
def hookZ (n : Nat) (nm : List Str) (ex : List Fx) (fn : List Df) : PySem.W.Hook :=
  { α := AlY, obs := fun s => obsZG n nm ex fn s.heap.get?, val := fun _ => dueY fn, says := fun _ h => ∃ K : PySem.W.Frag, K.In h ∧ SaysY ex fn K,
    of := fun _ _ e => ⟨_, He.frG_in, e⟩,
    keeps := fun _ _ _ w k => w.elim fun K z => ⟨K, PySem.W.Frag.In.keeps z.1 k, z.2⟩ }
theorem obsZG_eq {n : Nat} {nm : List Str} {ex : List Fx} {fn : List Df} {g : Addr → Option Obj} {s : Shared} (h : ∀ a, g a = s.heap.get? a) : obsZG n nm ex fn g = (hookZ n nm ex fn).obs s :=
  congrArg (obsZG n nm ex fn) (funext h)
end DL



namespace K17
open PySem L2 DL PySem.W
abbrev top (i : Nat) : Stmt := PySem.Challenge.pw_alsoshown_k17_rounds_told.main.body.getD i (.Pass ⟨0, 0, 0, 0⟩)
def clsBody : Stmt → List Stmt
  | .ClassDef (body := b) .. => b
  | _ => []
abbrev mth (i j : Nat) : Stmt := (clsBody (top i)).getD j (.Pass ⟨0, 0, 0, 0⟩)
abbrev s_is_name : Stmt := top 17
abbrev s_is_whole : Stmt := top 18
abbrev s_first_missing : Stmt := top 20
abbrev s_Net___init : Stmt := mth 24 0
abbrev s_Net_posts : Stmt := mth 24 1
abbrev s_Net_lanes : Stmt := mth 24 2
abbrev s_Net_post : Stmt := mth 24 3
abbrev s_Net_lane : Stmt := mth 24 4
abbrev s_Net_start_of : Stmt := mth 24 5
abbrev s_Net_end_of : Stmt := mth 24 6
abbrev s_Net_copy : Stmt := mth 24 8
abbrev s_Net___contains : Stmt := mth 24 12
abbrev s_check_lanes : Stmt := top 50
abbrev s_Round___init : Stmt := mth 48 0
abbrev s_Round_lanes : Stmt := mth 48 1
abbrev s_Round___len : Stmt := mth 48 7
abbrev s_Round___getitem : Stmt := mth 48 9
abbrev s_fits : Stmt := top 53
abbrev s_law_cell : Stmt := top 81
abbrev s_law_pool : Stmt := top 82
abbrev s_law_take : Stmt := top 83
abbrev s_law_names : Stmt := top 84
abbrev s_law_many : Stmt := top 85
abbrev s_law_mixed : Stmt := top 86
abbrev s_law_built : Stmt := top 88
abbrev s_law_net : Stmt := top 87
abbrev s_law_ends : Stmt := top 89
abbrev s_law_ways : Stmt := top 90
abbrev s_shortest_way : Stmt := top 27
abbrev s_reached_posts : Stmt := top 28
abbrev s_parts_of : Stmt := top 29
abbrev s_part_with : Stmt := top 74
abbrev s_found_part : Stmt := top 75
abbrev s_inner_ends : Stmt := top 73
abbrev s_closed_walk : Stmt := top 76
abbrev s_Asked___init : Stmt := mth 72 0
abbrev s_Asked_net : Stmt := mth 72 1
abbrev s_Asked_round : Stmt := mth 72 4
abbrev s_Asked___bool : Stmt := mth 72 5
abbrev s_law_part : Stmt := top 91
abbrev s_law_wanted : Stmt := top 92
abbrev s_law_in_part : Stmt := top 93
abbrev s_law_is_round : Stmt := top 94
abbrev s_law : Stmt := top 96
abbrev s_BadName___init : Stmt := mth 3 0
abbrev s_NameTaken___init : Stmt := mth 4 0
abbrev s_NoPost___init : Stmt := mth 5 0
abbrev s_NoLane___init : Stmt := mth 6 0
abbrev s_BadNumber___init : Stmt := mth 11 0
abbrev s_NoRound___init : Stmt := mth 12 0
theorem sc_is_name : FnScope ["word", "sign"] ["word"] (defScope s_is_name) := ⟨rfl, rfl, rfl, by decide +kernel, rfl, by decide +kernel, by decide +kernel⟩
theorem sc_is_whole : FnScope ["value"] ["value"] (defScope s_is_whole) := ⟨rfl, rfl, rfl, by decide +kernel, rfl, by decide +kernel, by decide +kernel⟩
theorem sc_first_missing : FnScope ["names", "known", "name"] ["names", "known"] (defScope s_first_missing) := ⟨rfl, rfl, rfl, by decide +kernel, rfl, by decide +kernel, by decide +kernel⟩
theorem sc_Net___init : FnScope ["self", "order", "ends_by_lane", "known", "lane"] ["self", "order", "ends_by_lane"] (defScope s_Net___init) := ⟨rfl, rfl, rfl, by decide +kernel, rfl, by decide +kernel, by decide +kernel⟩
theorem sc_Net_posts : FnScope ["self"] ["self"] (defScope s_Net_posts) := ⟨rfl, rfl, rfl, by decide +kernel, rfl, by decide +kernel, by decide +kernel⟩
theorem sc_Net_lanes : FnScope ["self", "lane"] ["self"] (defScope s_Net_lanes) := ⟨rfl, rfl, rfl, by decide +kernel, rfl, by decide +kernel, by decide +kernel⟩
theorem sc_Net_post : FnScope ["self", "name"] ["self", "name"] (defScope s_Net_post) := ⟨rfl, rfl, rfl, by decide +kernel, rfl, by decide +kernel, by decide +kernel⟩
theorem sc_Net_lane : FnScope ["self", "name", "start", "end", "place"] ["self", "name", "start", "end"] (defScope s_Net_lane) := ⟨rfl, rfl, rfl, by decide +kernel, rfl, by decide +kernel, by decide +kernel⟩
theorem sc_Net_start_of : FnScope ["self", "lane"] ["self", "lane"] (defScope s_Net_start_of) := ⟨rfl, rfl, rfl, by decide +kernel, rfl, by decide +kernel, by decide +kernel⟩
theorem sc_Net_end_of : FnScope ["self", "lane"] ["self", "lane"] (defScope s_Net_end_of) := ⟨rfl, rfl, rfl, by decide +kernel, rfl, by decide +kernel, by decide +kernel⟩
theorem sc_Net_copy : FnScope ["self"] ["self"] (defScope s_Net_copy) := ⟨rfl, rfl, rfl, by decide +kernel, rfl, by decide +kernel, by decide +kernel⟩
theorem sc_Net___contains : FnScope ["self", "lane"] ["self", "lane"] (defScope s_Net___contains) := ⟨rfl, rfl, rfl, by decide +kernel, rfl, by decide +kernel, by decide +kernel⟩
theorem sc_check_lanes : FnScope ["lanes", "lane"] ["lanes"] (defScope s_check_lanes) := ⟨rfl, rfl, rfl, by decide +kernel, rfl, by decide +kernel, by decide +kernel⟩
theorem sc_Round___init : FnScope ["self", "lanes"] ["self", "lanes"] (defScope s_Round___init) := ⟨rfl, rfl, rfl, by decide +kernel, rfl, by decide +kernel, by decide +kernel⟩
theorem sc_Round_lanes : FnScope ["self"] ["self"] (defScope s_Round_lanes) := ⟨rfl, rfl, rfl, by decide +kernel, rfl, by decide +kernel, by decide +kernel⟩
theorem sc_Round___len : FnScope ["self"] ["self"] (defScope s_Round___len) := ⟨rfl, rfl, rfl, by decide +kernel, rfl, by decide +kernel, by decide +kernel⟩
theorem sc_Round___getitem : FnScope ["self", "place"] ["self", "place"] (defScope s_Round___getitem) := ⟨rfl, rfl, rfl, by decide +kernel, rfl, by decide +kernel, by decide +kernel⟩
theorem sc_fits : FnScope ["net", "ring", "place"] ["net", "ring"] (defScope s_fits) := ⟨rfl, rfl, rfl, by decide +kernel, rfl, by decide +kernel, by decide +kernel⟩
theorem sc_law_cell : FnScope ["_law_script", "_law_k"] ["_law_script", "_law_k"] (defScope s_law_cell) := ⟨rfl, rfl, rfl, by decide +kernel, rfl, by decide +kernel, by decide +kernel⟩
theorem sc_law_pool : FnScope ["_law_cell_here", "_law_folded"] ["_law_cell_here"] (defScope s_law_pool) := ⟨rfl, rfl, rfl, by decide +kernel, rfl, by decide +kernel, by decide +kernel⟩
theorem sc_law_take : FnScope ["_law_pool_here", "_law_many_here", "_law_draw", "_law_mixed_here"] ["_law_pool_here", "_law_many_here"] (defScope s_law_take) := ⟨rfl, rfl, rfl, by decide +kernel, rfl, by decide +kernel, by decide +kernel⟩
theorem sc_law_names : FnScope ["_law_pool_here", "_law_many_here", "_law_letters", "_law_signs", "_law_word", "_law_k", "_law_kind", "_law_start", "_law_stem", "_law_place", "_law_told", "_law_names_here", "_law_sign"] ["_law_pool_here", "_law_many_here"] (defScope s_law_names) := ⟨rfl, rfl, rfl, by decide +kernel, rfl, by decide +kernel, by decide +kernel⟩
theorem sc_law_many : FnScope ["_law_pool_here", "_law_many_here", "_law_letters", "_law_signs", "_law_stem", "_law_k", "_law_place", "_law_told", "_law_start", "_law_names_here", "_law_sign"] ["_law_pool_here", "_law_many_here"] (defScope s_law_many) := ⟨rfl, rfl, rfl, by decide +kernel, rfl, by decide +kernel, by decide +kernel⟩
theorem sc_law_mixed : FnScope ["_law_pool_here", "_law_things", "_law_left", "_law_mixed_here", "_law_k", "_law_at"] ["_law_pool_here", "_law_things"] (defScope s_law_mixed) := ⟨rfl, rfl, rfl, by decide +kernel, rfl, by decide +kernel, by decide +kernel⟩
theorem sc_law_built : FnScope ["_law_parts", "_law_net_here", "_law_post", "_law_lane", "_law_start", "_law_end"] ["_law_parts"] (defScope s_law_built) := ⟨rfl, rfl, rfl, by decide +kernel, rfl, by decide +kernel, by decide +kernel⟩
theorem sc_law_net : FnScope ["_law_pool_here", "_law_most", "_law_lanes", "_law_names_here", "_law_posts", "_law_told", "_law_name", "_law_found", "_law_k", "_law_start"] ["_law_pool_here", "_law_most", "_law_lanes"] (defScope s_law_net) := ⟨rfl, rfl, rfl, by decide +kernel, rfl, by decide +kernel, by decide +kernel⟩
theorem sc_law_ends : FnScope ["_law_parts", "_law_ends_here", "_law_lane", "_law_start", "_law_end"] ["_law_parts"] (defScope s_law_ends) := ⟨rfl, rfl, rfl, by decide +kernel, rfl, by decide +kernel, by decide +kernel⟩
theorem sc_law_ways : FnScope ["_law_parts", "_law_start", "_law_ways_here", "_law_queue", "_law_at", "_law_lane", "_law_first", "_law_second"] ["_law_parts", "_law_start"] (defScope s_law_ways) := ⟨rfl, rfl, rfl, by decide +kernel, rfl, by decide +kernel, by decide +kernel⟩
theorem sc_shortest_way : FnScope ["ends_by_lane", "first", "second", "ways", "queue", "at", "lane", "start", "end"] ["ends_by_lane", "first", "second"] (defScope s_shortest_way) := ⟨rfl, rfl, rfl, by decide +kernel, rfl, by decide +kernel, by decide +kernel⟩
theorem sc_reached_posts : FnScope ["net", "start", "found", "going", "lane", "first", "second", "post"] ["net", "start"] (defScope s_reached_posts) := ⟨rfl, rfl, rfl, by decide +kernel, rfl, by decide +kernel, by decide +kernel⟩
theorem sc_parts_of : FnScope ["net", "post", "reached", "parts", "known", "other", "posts", "lane", "inner"] ["net"] (defScope s_parts_of) := ⟨rfl, rfl, rfl, by decide +kernel, rfl, by decide +kernel, by decide +kernel⟩
theorem sc_part_with : FnScope ["net", "wanted", "part"] ["net", "wanted"] (defScope s_part_with) := ⟨rfl, rfl, rfl, by decide +kernel, rfl, by decide +kernel, by decide +kernel⟩
theorem sc_found_part : FnScope ["net", "wanted", "part", "first", "side", "second"] ["net", "wanted"] (defScope s_found_part) := ⟨rfl, rfl, rfl, by decide +kernel, rfl, by decide +kernel, by decide +kernel⟩
theorem sc_inner_ends : FnScope ["net", "lanes", "lane"] ["net", "lanes"] (defScope s_inner_ends) := ⟨rfl, rfl, rfl, by decide +kernel, rfl, by decide +kernel, by decide +kernel⟩
theorem sc_closed_walk : FnScope ["ends", "wanted", "tour", "place", "lane", "following"] ["ends", "wanted"] (defScope s_closed_walk) := ⟨rfl, rfl, rfl, by decide +kernel, rfl, by decide +kernel, by decide +kernel⟩
theorem sc_Asked___init : FnScope ["self", "net", "wanted", "missing", "lane"] ["self", "net", "wanted"] (defScope s_Asked___init) := ⟨rfl, rfl, rfl, by decide +kernel, rfl, by decide +kernel, by decide +kernel⟩
theorem sc_Asked_net : FnScope ["self"] ["self"] (defScope s_Asked_net) := ⟨rfl, rfl, rfl, by decide +kernel, rfl, by decide +kernel, by decide +kernel⟩
theorem sc_Asked_round : FnScope ["self", "posts", "lanes"] ["self"] (defScope s_Asked_round) := ⟨rfl, rfl, rfl, by decide +kernel, rfl, by decide +kernel, by decide +kernel⟩
theorem sc_Asked___bool : FnScope ["self"] ["self"] (defScope s_Asked___bool) := ⟨rfl, rfl, rfl, by decide +kernel, rfl, by decide +kernel, by decide +kernel⟩
theorem sc_law_part : FnScope ["_law_parts", "_law_lane", "_law_ends_here", "_law_start", "_law_end", "_law_ways_here", "_law_post", "_law_posts", "_law_row"] ["_law_parts", "_law_lane"] (defScope s_law_part) := ⟨rfl, rfl, rfl, by decide +kernel, rfl, by decide +kernel, by decide +kernel⟩
theorem sc_law_wanted : FnScope ["_law_pool_here", "_law_parts", "_law_row", "_law_lanes", "_law_lane", "_law_part_here", "_law_k", "_law_other", "_law_some"] ["_law_pool_here", "_law_parts"] (defScope s_law_wanted) := ⟨rfl, rfl, rfl, by decide +kernel, rfl, by decide +kernel, by decide +kernel⟩
theorem sc_law_in_part : FnScope ["_law_parts", "_law_wanted_here", "_law_part_here", "_law_lane"] ["_law_parts", "_law_wanted_here"] (defScope s_law_in_part) := ⟨rfl, rfl, rfl, by decide +kernel, rfl, by decide +kernel, by decide +kernel⟩
theorem sc_law_is_round : FnScope ["_law_parts", "_law_lanes", "_law_wanted_here", "_law_ends_here", "_law_lane", "_law_k"] ["_law_parts", "_law_lanes", "_law_wanted_here"] (defScope s_law_is_round) := ⟨rfl, rfl, rfl, by decide +kernel, rfl, by decide +kernel, by decide +kernel⟩
theorem sc_law : FnScope ["_law_script", "_law_k", "_law_pool_here", "_law_parts", "_law_wanted_here", "_law_part_here", "_law_lot", "_law_turn", "_law_rows", "_law_net_here", "_law_asked", "_law_ring"] ["_law_script"] (defScope s_law) := ⟨rfl, rfl, rfl, by decide +kernel, rfl, by decide +kernel, by decide +kernel⟩
theorem sc_BadName___init : FnScope ["self", "name"] ["self", "name"] (defScope s_BadName___init) := ⟨rfl, rfl, rfl, by decide +kernel, rfl, by decide +kernel, by decide +kernel⟩
theorem sc_NameTaken___init : FnScope ["self", "name"] ["self", "name"] (defScope s_NameTaken___init) := ⟨rfl, rfl, rfl, by decide +kernel, rfl, by decide +kernel, by decide +kernel⟩
theorem sc_NoPost___init : FnScope ["self", "name"] ["self", "name"] (defScope s_NoPost___init) := ⟨rfl, rfl, rfl, by decide +kernel, rfl, by decide +kernel, by decide +kernel⟩
theorem sc_NoLane___init : FnScope ["self", "name"] ["self", "name"] (defScope s_NoLane___init) := ⟨rfl, rfl, rfl, by decide +kernel, rfl, by decide +kernel, by decide +kernel⟩
theorem sc_BadNumber___init : FnScope ["self", "value"] ["self", "value"] (defScope s_BadNumber___init) := ⟨rfl, rfl, rfl, by decide +kernel, rfl, by decide +kernel, by decide +kernel⟩
theorem sc_NoRound___init : FnScope ["self", "first", "second", "side"] ["self", "first", "second", "side"] (defScope s_NoRound___init) := ⟨rfl, rfl, rfl, by decide +kernel, rfl, by decide +kernel, by decide +kernel⟩
/-- what the top leaves -/
structure Tx (K : PySem.W.Frag) (mg : Str → Option Value) : Prop where
  v_LETTERS : ∃ u, mg "LETTERS" = some u ∧ RelV (.str "abcdefghijklmnopqrstuvwxyz") u
  n_len : mg "len" = none
  v_LONGEST : ∃ u, mg "LONGEST" = some u ∧ RelV (.int 8) u
  n_isinstance : mg "isinstance" = none
  n_str : mg "str" = none
  n_all : mg "all" = none
  v_DIGITS : ∃ u, mg "DIGITS" = some u ∧ RelV (.str "0123456789") u
  n_bool : mg "bool" = none
  n_int : mg "int" = none
  n_list : mg "list" = none
  t0_Net___init : IsT0 K (He.dflAt ("Net", some "__init__") 0 K)
  n_tuple : mg "tuple" = none
  g_is_name : mg "is_name" = some (.ref (He.ga K "is_name")) ∧ keepIn K (.ref (He.ga K "is_name")) = true
  g_BadName : mg "BadName" = some (.ref (He.ga K "BadName")) ∧ keepIn K (.ref (He.ga K "BadName")) = true
  g_NameTaken : mg "NameTaken" = some (.ref (He.ga K "NameTaken")) ∧ keepIn K (.ref (He.ga K "NameTaken")) = true
  g_NoPost : mg "NoPost" = some (.ref (He.ga K "NoPost")) ∧ keepIn K (.ref (He.ga K "NoPost")) = true
  g_NoLane : mg "NoLane" = some (.ref (He.ga K "NoLane")) ∧ keepIn K (.ref (He.ga K "NoLane")) = true
  mk_Net : Mk K (He.ga K "Net") (He.ma K (He.ga K "Net") "__init__")
  g_Net : mg "Net" = some (.ref (He.ga K "Net")) ∧ keepIn K (.ref (He.ga K "Net")) = true
  x0_EmptyWalk : excIn K (He.ga K "EmptyWalk") He.veBase "ValueError.__new__" = true ∧ keepIn K (.ref (He.ga K "EmptyWalk")) = true ∧ subIn K (.ref (He.ga K "EmptyWalk")) (.type "BaseException") = some true ∧ typeIn K (.ref (He.ga K "EmptyWalk")) = some (.type "type")
  g_EmptyWalk : mg "EmptyWalk" = some (.ref (He.ga K "EmptyWalk")) ∧ keepIn K (.ref (He.ga K "EmptyWalk")) = true
  g_check_lanes : mg "check_lanes" = some (.ref (He.ga K "check_lanes")) ∧ keepIn K (.ref (He.ga K "check_lanes")) = true
  g_is_whole : mg "is_whole" = some (.ref (He.ga K "is_whole")) ∧ keepIn K (.ref (He.ga K "is_whole")) = true
  g_BadNumber : mg "BadNumber" = some (.ref (He.ga K "BadNumber")) ∧ keepIn K (.ref (He.ga K "BadNumber")) = true
  n_range : mg "range" = none
  sm_Round_len : Sm K (He.ga K "Round") "__len__" (He.ma K (He.ga K "Round") "__len__")
  sm_Round_getitem : Sm K (He.ga K "Round") "__getitem__" (He.ma K (He.ga K "Round") "__getitem__")
  ff_Round_getitem : fnIn K (He.ma K (He.ga K "Round") "__getitem__") = true
  sm_Net_contains : Sm K (He.ga K "Net") "__contains__" (He.ma K (He.ga K "Net") "__contains__")
  cl_Net : Cls K (He.ga K "Net")
  me_Net_end_of : Meth K (He.ga K "Net") "end_of" (He.ma K (He.ga K "Net") "end_of")
  me_Net_start_of : Meth K (He.ga K "Net") "start_of" (He.ma K (He.ga K "Net") "start_of")
  g_law_take : mg "_law_take" = some (.ref (He.ga K "_law_take")) ∧ keepIn K (.ref (He.ga K "_law_take")) = true
  me_Net_post : Meth K (He.ga K "Net") "post" (He.ma K (He.ga K "Net") "post")
  me_Net_lane : Meth K (He.ga K "Net") "lane" (He.ma K (He.ga K "Net") "lane")
  g_law_names : mg "_law_names" = some (.ref (He.ga K "_law_names")) ∧ keepIn K (.ref (He.ga K "_law_names")) = true
  g_law_many : mg "_law_many" = some (.ref (He.ga K "_law_many")) ∧ keepIn K (.ref (He.ga K "_law_many")) = true
  n_min : mg "min" = none
  g_law_mixed : mg "_law_mixed" = some (.ref (He.ga K "_law_mixed")) ∧ keepIn K (.ref (He.ga K "_law_mixed")) = true
  g_reached_posts : mg "reached_posts" = some (.ref (He.ga K "reached_posts")) ∧ keepIn K (.ref (He.ga K "reached_posts")) = true
  g_first_missing : mg "first_missing" = some (.ref (He.ga K "first_missing")) ∧ keepIn K (.ref (He.ga K "first_missing")) = true
  g_parts_of : mg "parts_of" = some (.ref (He.ga K "parts_of")) ∧ keepIn K (.ref (He.ga K "parts_of")) = true
  g_part_with : mg "part_with" = some (.ref (He.ga K "part_with")) ∧ keepIn K (.ref (He.ga K "part_with")) = true
  g_NoRound : mg "NoRound" = some (.ref (He.ga K "NoRound")) ∧ keepIn K (.ref (He.ga K "NoRound")) = true
  n_enumerate : mg "enumerate" = none
  g_shortest_way : mg "shortest_way" = some (.ref (He.ga K "shortest_way")) ∧ keepIn K (.ref (He.ga K "shortest_way")) = true
  x0_NothingWanted : excIn K (He.ga K "NothingWanted") He.veBase "ValueError.__new__" = true ∧ keepIn K (.ref (He.ga K "NothingWanted")) = true ∧ subIn K (.ref (He.ga K "NothingWanted")) (.type "BaseException") = some true ∧ typeIn K (.ref (He.ga K "NothingWanted")) = some (.type "type")
  g_NothingWanted : mg "NothingWanted" = some (.ref (He.ga K "NothingWanted")) ∧ keepIn K (.ref (He.ga K "NothingWanted")) = true
  me_Net_copy : Meth K (He.ga K "Net") "copy" (He.ma K (He.ga K "Net") "copy")
  pr_Net_lanes : PropOf K (He.ga K "Net") "lanes" (He.ma K (He.ga K "Net") "lanes") (pga K (He.ga K "Net") "lanes")
  g_found_part : mg "found_part" = some (.ref (He.ga K "found_part")) ∧ keepIn K (.ref (He.ga K "found_part")) = true
  mk_Round : Mk K (He.ga K "Round") (He.ma K (He.ga K "Round") "__init__")
  g_Round : mg "Round" = some (.ref (He.ga K "Round")) ∧ keepIn K (.ref (He.ga K "Round")) = true
  g_closed_walk : mg "closed_walk" = some (.ref (He.ga K "closed_walk")) ∧ keepIn K (.ref (He.ga K "closed_walk")) = true
  g_inner_ends : mg "inner_ends" = some (.ref (He.ga K "inner_ends")) ∧ keepIn K (.ref (He.ga K "inner_ends")) = true
  g_law_ends : mg "_law_ends" = some (.ref (He.ga K "_law_ends")) ∧ keepIn K (.ref (He.ga K "_law_ends")) = true
  g_law_ways : mg "_law_ways" = some (.ref (He.ga K "_law_ways")) ∧ keepIn K (.ref (He.ga K "_law_ways")) = true
  g_law_part : mg "_law_part" = some (.ref (He.ga K "_law_part")) ∧ keepIn K (.ref (He.ga K "_law_part")) = true
  g_law_pool : mg "_law_pool" = some (.ref (He.ga K "_law_pool")) ∧ keepIn K (.ref (He.ga K "_law_pool")) = true
  g_law_cell : mg "_law_cell" = some (.ref (He.ga K "_law_cell")) ∧ keepIn K (.ref (He.ga K "_law_cell")) = true
  g_law_net : mg "_law_net" = some (.ref (He.ga K "_law_net")) ∧ keepIn K (.ref (He.ga K "_law_net")) = true
  g_law_wanted : mg "_law_wanted" = some (.ref (He.ga K "_law_wanted")) ∧ keepIn K (.ref (He.ga K "_law_wanted")) = true
  g_law_in_part : mg "_law_in_part" = some (.ref (He.ga K "_law_in_part")) ∧ keepIn K (.ref (He.ga K "_law_in_part")) = true
  g_law_built : mg "_law_built" = some (.ref (He.ga K "_law_built")) ∧ keepIn K (.ref (He.ga K "_law_built")) = true
  mk_Asked : Mk K (He.ga K "Asked") (He.ma K (He.ga K "Asked") "__init__")
  g_Asked : mg "Asked" = some (.ref (He.ga K "Asked")) ∧ keepIn K (.ref (He.ga K "Asked")) = true
  sm_Asked_bool : Sm K (He.ga K "Asked") "__bool__" (He.ma K (He.ga K "Asked") "__bool__")
  cl_Asked : Cls K (He.ga K "Asked")
  me_Asked_round : Meth K (He.ga K "Asked") "round" (He.ma K (He.ga K "Asked") "round")
  g_law_is_round : mg "_law_is_round" = some (.ref (He.ga K "_law_is_round")) ∧ keepIn K (.ref (He.ga K "_law_is_round")) = true
  cl_Round : Cls K (He.ga K "Round")
  pr_Round_lanes : PropOf K (He.ga K "Round") "lanes" (He.ma K (He.ga K "Round") "lanes") (pga K (He.ga K "Round") "lanes")
  g_fits : mg "fits" = some (.ref (He.ga K "fits")) ∧ keepIn K (.ref (He.ga K "fits")) = true
  pr_Asked_net : PropOf K (He.ga K "Asked") "net" (He.ma K (He.ga K "Asked") "net") (pga K (He.ga K "Asked") "net")
  xc_BadName : Xc K (He.ga K "BadName")
  xi_BadName : findIn K (.ref (He.ga K "BadName")) "__init__" = some (some (.ref (He.ma K (He.ga K "BadName") "__init__"))) ∧ typeIn K (.ref (He.ma K (He.ga K "BadName") "__init__")) = some (.type "function")
  xn_BadName_name : findIn K (.ref (He.ga K "BadName")) "name" = some none
  xc_NameTaken : Xc K (He.ga K "NameTaken")
  xi_NameTaken : findIn K (.ref (He.ga K "NameTaken")) "__init__" = some (some (.ref (He.ma K (He.ga K "NameTaken") "__init__"))) ∧ typeIn K (.ref (He.ma K (He.ga K "NameTaken") "__init__")) = some (.type "function")
  xn_NameTaken_name : findIn K (.ref (He.ga K "NameTaken")) "name" = some none
  xc_NoPost : Xc K (He.ga K "NoPost")
  xi_NoPost : findIn K (.ref (He.ga K "NoPost")) "__init__" = some (some (.ref (He.ma K (He.ga K "NoPost") "__init__"))) ∧ typeIn K (.ref (He.ma K (He.ga K "NoPost") "__init__")) = some (.type "function")
  xn_NoPost_name : findIn K (.ref (He.ga K "NoPost")) "name" = some none
  xc_NoLane : Xc K (He.ga K "NoLane")
  xi_NoLane : findIn K (.ref (He.ga K "NoLane")) "__init__" = some (some (.ref (He.ma K (He.ga K "NoLane") "__init__"))) ∧ typeIn K (.ref (He.ma K (He.ga K "NoLane") "__init__")) = some (.type "function")
  xn_NoLane_name : findIn K (.ref (He.ga K "NoLane")) "name" = some none
  xc_BadNumber : Xc K (He.ga K "BadNumber")
  xi_BadNumber : findIn K (.ref (He.ga K "BadNumber")) "__init__" = some (some (.ref (He.ma K (He.ga K "BadNumber") "__init__"))) ∧ typeIn K (.ref (He.ma K (He.ga K "BadNumber") "__init__")) = some (.type "function")
  xn_BadNumber_value : findIn K (.ref (He.ga K "BadNumber")) "value" = some none
  xc_NoRound : Xc K (He.ga K "NoRound")
  xi_NoRound : findIn K (.ref (He.ga K "NoRound")) "__init__" = some (some (.ref (He.ma K (He.ga K "NoRound") "__init__"))) ∧ typeIn K (.ref (He.ma K (He.ga K "NoRound") "__init__")) = some (.type "function")
  g_law : mg "law" = some (.ref (He.ga K "law")) ∧ keepIn K (.ref (He.ga K "law")) = true
  kt_NoneType_str : kitOne K (.type "NoneType") (.type "str") = some false
  kt_bool_str : kitOne K (.type "bool") (.type "str") = some false
  kt_int_str : kitOne K (.type "int") (.type "str") = some false
  kt_list_str : kitOne K (.type "list") (.type "str") = some false
  kt_tuple_str : kitOne K (.type "tuple") (.type "str") = some false
  kt_str_str : kitOne K (.type "str") (.type "str") = some true
  kt_NoneType_int : kitOne K (.type "NoneType") (.type "int") = some false
  kt_str_int : kitOne K (.type "str") (.type "int") = some false
  kt_list_int : kitOne K (.type "list") (.type "int") = some false
  kt_tuple_int : kitOne K (.type "tuple") (.type "int") = some false
  kt_int_int : kitOne K (.type "int") (.type "int") = some true
  kt_int_bool : kitOne K (.type "int") (.type "bool") = some false
  kt_bool_int : kitOne K (.type "bool") (.type "int") = some true
  kt_bool_bool : kitOne K (.type "bool") (.type "bool") = some true
  na_Net_order : NoAttr K (He.ga K "Net") "order"
  na_Net_ends_by_lane : NoAttr K (He.ga K "Net") "ends_by_lane"
  na_Round_line : NoAttr K (He.ga K "Round") "line"
  na_Asked_base : NoAttr K (He.ga K "Asked") "base"
  na_Asked_goal : NoAttr K (He.ga K "Asked") "goal"
  ci_Round : ClsI K (He.ga K "Round")
  ko_Round_Round : kitOne K (.ref (He.ga K "Round")) (.ref (He.ga K "Round")) = some true
  d_is_name : ∃ fd, FunD K "is_name" "is_name" (defArgs s_is_name) (defBody s_is_name) (defScope s_is_name) [] [] (He.ga K "is_name") fd
  d_is_whole : ∃ fd, FunD K "is_whole" "is_whole" (defArgs s_is_whole) (defBody s_is_whole) (defScope s_is_whole) [] [] (He.ga K "is_whole") fd
  d_first_missing : ∃ fd, FunD K "first_missing" "first_missing" (defArgs s_first_missing) (defBody s_first_missing) (defScope s_first_missing) [] [] (He.ga K "first_missing") fd
  d_Net___init : ∃ fd, FunD K "__init__" "Net.__init__" (defArgs s_Net___init) (defBody s_Net___init) (defScope s_Net___init) [.ref (He.dflAt ("Net", some "__init__") 0 K), .non] [] (He.ma K (He.ga K "Net") "__init__") fd
  d_Net_posts : ∃ fd, FunD K "posts" "Net.posts" (defArgs s_Net_posts) (defBody s_Net_posts) (defScope s_Net_posts) [] [] (pga K (He.ga K "Net") "posts") fd
  d_Net_lanes : ∃ fd, FunD K "lanes" "Net.lanes" (defArgs s_Net_lanes) (defBody s_Net_lanes) (defScope s_Net_lanes) [] [] (pga K (He.ga K "Net") "lanes") fd
  d_Net_post : ∃ fd, FunD K "post" "Net.post" (defArgs s_Net_post) (defBody s_Net_post) (defScope s_Net_post) [] [] (He.ma K (He.ga K "Net") "post") fd
  d_Net_lane : ∃ fd, FunD K "lane" "Net.lane" (defArgs s_Net_lane) (defBody s_Net_lane) (defScope s_Net_lane) [] [] (He.ma K (He.ga K "Net") "lane") fd
  d_Net_start_of : ∃ fd, FunD K "start_of" "Net.start_of" (defArgs s_Net_start_of) (defBody s_Net_start_of) (defScope s_Net_start_of) [] [] (He.ma K (He.ga K "Net") "start_of") fd
  d_Net_end_of : ∃ fd, FunD K "end_of" "Net.end_of" (defArgs s_Net_end_of) (defBody s_Net_end_of) (defScope s_Net_end_of) [] [] (He.ma K (He.ga K "Net") "end_of") fd
  d_Net_copy : ∃ fd, FunD K "copy" "Net.copy" (defArgs s_Net_copy) (defBody s_Net_copy) (defScope s_Net_copy) [] [] (He.ma K (He.ga K "Net") "copy") fd
  d_Net___contains : ∃ fd, FunD K "__contains__" "Net.__contains__" (defArgs s_Net___contains) (defBody s_Net___contains) (defScope s_Net___contains) [] [] (He.ma K (He.ga K "Net") "__contains__") fd
  d_check_lanes : ∃ fd, FunD K "check_lanes" "check_lanes" (defArgs s_check_lanes) (defBody s_check_lanes) (defScope s_check_lanes) [] [] (He.ga K "check_lanes") fd
  d_Round___init : ∃ fd, FunD K "__init__" "Round.__init__" (defArgs s_Round___init) (defBody s_Round___init) (defScope s_Round___init) [] [] (He.ma K (He.ga K "Round") "__init__") fd
  d_Round_lanes : ∃ fd, FunD K "lanes" "Round.lanes" (defArgs s_Round_lanes) (defBody s_Round_lanes) (defScope s_Round_lanes) [] [] (pga K (He.ga K "Round") "lanes") fd
  d_Round___len : ∃ fd, FunD K "__len__" "Round.__len__" (defArgs s_Round___len) (defBody s_Round___len) (defScope s_Round___len) [] [] (He.ma K (He.ga K "Round") "__len__") fd
  d_Round___getitem : ∃ fd, FunD K "__getitem__" "Round.__getitem__" (defArgs s_Round___getitem) (defBody s_Round___getitem) (defScope s_Round___getitem) [] [] (He.ma K (He.ga K "Round") "__getitem__") fd
  d_fits : ∃ fd, FunD K "fits" "fits" (defArgs s_fits) (defBody s_fits) (defScope s_fits) [] [] (He.ga K "fits") fd
  d_law_cell : ∃ fd, FunD K "_law_cell" "_law_cell" (defArgs s_law_cell) (defBody s_law_cell) (defScope s_law_cell) [] [] (He.ga K "_law_cell") fd
  d_law_pool : ∃ fd, FunD K "_law_pool" "_law_pool" (defArgs s_law_pool) (defBody s_law_pool) (defScope s_law_pool) [] [] (He.ga K "_law_pool") fd
  d_law_take : ∃ fd, FunD K "_law_take" "_law_take" (defArgs s_law_take) (defBody s_law_take) (defScope s_law_take) [] [] (He.ga K "_law_take") fd
  d_law_names : ∃ fd, FunD K "_law_names" "_law_names" (defArgs s_law_names) (defBody s_law_names) (defScope s_law_names) [] [] (He.ga K "_law_names") fd
  d_law_many : ∃ fd, FunD K "_law_many" "_law_many" (defArgs s_law_many) (defBody s_law_many) (defScope s_law_many) [] [] (He.ga K "_law_many") fd
  d_law_mixed : ∃ fd, FunD K "_law_mixed" "_law_mixed" (defArgs s_law_mixed) (defBody s_law_mixed) (defScope s_law_mixed) [] [] (He.ga K "_law_mixed") fd
  d_law_built : ∃ fd, FunD K "_law_built" "_law_built" (defArgs s_law_built) (defBody s_law_built) (defScope s_law_built) [] [] (He.ga K "_law_built") fd
  d_law_net : ∃ fd, FunD K "_law_net" "_law_net" (defArgs s_law_net) (defBody s_law_net) (defScope s_law_net) [] [] (He.ga K "_law_net") fd
  d_law_ends : ∃ fd, FunD K "_law_ends" "_law_ends" (defArgs s_law_ends) (defBody s_law_ends) (defScope s_law_ends) [] [] (He.ga K "_law_ends") fd
  d_law_ways : ∃ fd, FunD K "_law_ways" "_law_ways" (defArgs s_law_ways) (defBody s_law_ways) (defScope s_law_ways) [] [] (He.ga K "_law_ways") fd
  d_shortest_way : ∃ fd, FunD K "shortest_way" "shortest_way" (defArgs s_shortest_way) (defBody s_shortest_way) (defScope s_shortest_way) [] [] (He.ga K "shortest_way") fd
  d_reached_posts : ∃ fd, FunD K "reached_posts" "reached_posts" (defArgs s_reached_posts) (defBody s_reached_posts) (defScope s_reached_posts) [] [] (He.ga K "reached_posts") fd
  d_parts_of : ∃ fd, FunD K "parts_of" "parts_of" (defArgs s_parts_of) (defBody s_parts_of) (defScope s_parts_of) [] [] (He.ga K "parts_of") fd
  d_part_with : ∃ fd, FunD K "part_with" "part_with" (defArgs s_part_with) (defBody s_part_with) (defScope s_part_with) [] [] (He.ga K "part_with") fd
  d_found_part : ∃ fd, FunD K "found_part" "found_part" (defArgs s_found_part) (defBody s_found_part) (defScope s_found_part) [] [] (He.ga K "found_part") fd
  d_inner_ends : ∃ fd, FunD K "inner_ends" "inner_ends" (defArgs s_inner_ends) (defBody s_inner_ends) (defScope s_inner_ends) [] [] (He.ga K "inner_ends") fd
  d_closed_walk : ∃ fd, FunD K "closed_walk" "closed_walk" (defArgs s_closed_walk) (defBody s_closed_walk) (defScope s_closed_walk) [] [] (He.ga K "closed_walk") fd
  d_Asked___init : ∃ fd, FunD K "__init__" "Asked.__init__" (defArgs s_Asked___init) (defBody s_Asked___init) (defScope s_Asked___init) [] [] (He.ma K (He.ga K "Asked") "__init__") fd
  d_Asked_net : ∃ fd, FunD K "net" "Asked.net" (defArgs s_Asked_net) (defBody s_Asked_net) (defScope s_Asked_net) [] [] (pga K (He.ga K "Asked") "net") fd
  d_Asked_round : ∃ fd, FunD K "round" "Asked.round" (defArgs s_Asked_round) (defBody s_Asked_round) (defScope s_Asked_round) [] [] (He.ma K (He.ga K "Asked") "round") fd
  d_Asked___bool : ∃ fd, FunD K "__bool__" "Asked.__bool__" (defArgs s_Asked___bool) (defBody s_Asked___bool) (defScope s_Asked___bool) [] [] (He.ma K (He.ga K "Asked") "__bool__") fd
  d_law_part : ∃ fd, FunD K "_law_part" "_law_part" (defArgs s_law_part) (defBody s_law_part) (defScope s_law_part) [] [] (He.ga K "_law_part") fd
  d_law_wanted : ∃ fd, FunD K "_law_wanted" "_law_wanted" (defArgs s_law_wanted) (defBody s_law_wanted) (defScope s_law_wanted) [] [] (He.ga K "_law_wanted") fd
  d_law_in_part : ∃ fd, FunD K "_law_in_part" "_law_in_part" (defArgs s_law_in_part) (defBody s_law_in_part) (defScope s_law_in_part) [] [] (He.ga K "_law_in_part") fd
  d_law_is_round : ∃ fd, FunD K "_law_is_round" "_law_is_round" (defArgs s_law_is_round) (defBody s_law_is_round) (defScope s_law_is_round) [] [] (He.ga K "_law_is_round") fd
  d_law : ∃ fd, FunD K "law" "law" (defArgs s_law) (defBody s_law) (defScope s_law) [] [] (He.ga K "law") fd
  d_BadName___init : ∃ fd, FunD K "__init__" "BadName.__init__" (defArgs s_BadName___init) (defBody s_BadName___init) (defScope s_BadName___init) [] [] (He.ma K (He.ga K "BadName") "__init__") fd
  d_NameTaken___init : ∃ fd, FunD K "__init__" "NameTaken.__init__" (defArgs s_NameTaken___init) (defBody s_NameTaken___init) (defScope s_NameTaken___init) [] [] (He.ma K (He.ga K "NameTaken") "__init__") fd
  d_NoPost___init : ∃ fd, FunD K "__init__" "NoPost.__init__" (defArgs s_NoPost___init) (defBody s_NoPost___init) (defScope s_NoPost___init) [] [] (He.ma K (He.ga K "NoPost") "__init__") fd
  d_NoLane___init : ∃ fd, FunD K "__init__" "NoLane.__init__" (defArgs s_NoLane___init) (defBody s_NoLane___init) (defScope s_NoLane___init) [] [] (He.ma K (He.ga K "NoLane") "__init__") fd
  d_BadNumber___init : ∃ fd, FunD K "__init__" "BadNumber.__init__" (defArgs s_BadNumber___init) (defBody s_BadNumber___init) (defScope s_BadNumber___init) [] [] (He.ma K (He.ga K "BadNumber") "__init__") fd
  d_NoRound___init : ∃ fd, FunD K "__init__" "NoRound.__init__" (defArgs s_NoRound___init) (defBody s_NoRound___init) (defScope s_NoRound___init) [] [] (He.ma K (He.ga K "NoRound") "__init__") fd
section
variable {P : Program} {w : World} {K : PySem.W.Frag} {mg : Str → Option Value} {base : Heap}
end
def ct_is_name (K : PySem.W.Frag) : Ct := Ct1 fun a ka out => ∃ d, a = .val d ∧ nmOk d ∧ ka = [] ∧ out = Rt (.bl (isNmD d)) []
section
variable {P : Program} {w : World} {K : PySem.W.Frag} {mg : Str → Option Value} {base : Heap}
theorem ok_is_name (T : Tx K mg) : Fn P w K mg base 4 (He.ga K "is_name") ["word"] (ct_is_name K) := by
  obtain ⟨fd, F⟩ := T.d_is_name
  refine fn_ok F sc_is_name (fun _ _ _ _ _ _ us hl => match us, hl with | [_], _ => rfl) ct1_len (fun cdv A outer s H E hr => ⟨_, (pss_cons (ps_if (PW.pt (pw_or (pt_not (pt_val (pe_callB call_isi rfl T.n_isinstance (by decide +kernel) (pa_cons (pv 0) (pa_cons (pe_bltn (v := .ty "str") rfl T.n_str (by decide +kernel) rfl) pa_nil))))) (pw_or (pt_cmpR (op_eqP (by have := (hr).units; exact this)) (pv 0) pe_str (nomark _)) (pw_or (pt_cmpR op_gt (pe_callB call_lenU rfl T.n_len (by decide +kernel) (pa_cons (pv 0) pa_nil)) (pe_gv rfl T.v_LONGEST) (nomark _)) (pw_or1 (pt_cmpR op_niU (pe_ix ix_seq (pv 0) pe_int fun _ _ => rfl) (pe_gv rfl T.v_LETTERS) (by with_unfolding_all rfl)))))))
      (pss_one (ps_ret pe_bl))
      pss_nil)
      (pss_one (ps_ret (pe_callB (cr_all rfl) rfl T.n_all (by decide +kernel) (pa_cons (pe_lc (te := (tOrV (tOp (rInU K) (tVar 1) (tC (.str "abcdefghijklmnopqrstuvwxyz"))) (tOp (rInU K) (tVar 1) (tC (.str "0123456789"))))) (tt := tYes) (own := [("sign", 1)]) rfl sc_is_name.nd (pi_seq (pv 0)) (blk_ok ["word", "sign"] (defScope s_is_name) rfl rfl (by decide +kernel)) (fun _ _ _ _ _ => (pg_name (i := 1) sc_is_name.nd rfl (by first | exact Or.inl rfl | exact Or.inr rfl))) (fun _ _ _ _ _ => pts_nil) (fun _ _ _ _ _ => (pe_or (pe_cmpR op_inU (pv 1) (pe_gv rfl T.v_LETTERS) (by with_unfolding_all rfl)) (pe_one (pe_cmpR op_inU (pv 1) (pe_gv rfl T.v_DIGITS) (by with_unfolding_all rfl)))))) pa_nil))))), fun ws ka out B F0 Q hC hR hX => ?_⟩)
  obtain ⟨a, rfl, d, rfl, hd, rfl, rfl⟩ := hC
  have other : (∃ s, d = .str s) ∨ ∃ t, tyD d = some t ∧ kitOne K (.type t) (.type "str") = some false ∧ isNmD d = false := by
    cases d with
    | non => exact .inr ⟨_, rfl, T.kt_NoneType_str, rfl⟩
    | bl b => exact .inr ⟨_, rfl, T.kt_bool_str, rfl⟩
    | int i => exact .inr ⟨_, rfl, T.kt_int_str, rfl⟩
    | lst ds => exact .inr ⟨_, rfl, T.kt_list_str, rfl⟩
    | tup ds => exact .inr ⟨_, rfl, T.kt_tuple_str, rfl⟩
    | str s => exact .inl ⟨s, rfl⟩
    | _ => exact absurd rfl hd
  rcases other with ⟨s, rfl⟩ | ⟨t, ht, hk, hn⟩
  · have hs : s.length ≤ 100000 := Nat.le_trans hd (by decide)
    cases hc : s.cps.toList with
    | nil =>
      have e := str_nil hc
      refine q_when (et_or0 ((et_not (et_B (ev_isi (ev_var rfl) .str T.kt_str_str))).to rfl) (et_or1 ((et_test (ev_eqS (ev_var rfl) ev_str)).to (by rw [e]; rfl)))) (fun _ => g_ret hR ev_bl ⟨?_, rfl⟩) (fun z => by cases z)
      show Out.ret (.bl false) = Out.ret (.bl (isNm s))
      unfold isNm
      rw [hc]
      rfl
    | cons c r =>
      have e : (s == ("" : Str)) = false := by
        refine beq_eq_false_iff_ne.mpr fun z => ?_
        rw [z] at hc
        cases hc
      have hl : s.length = (c :: r).length := by rw [str_len, hc]
      refine q_when (et_or0 ((et_not (et_B (ev_isi (ev_var rfl) .str T.kt_str_str))).to rfl) (et_or0 ((et_test (ev_eqS (ev_var rfl) ev_str)).to e) (et_or (et_test (ev_gt (ev_lenS (ev_var rfl) hs) ev_int)) (fun _ => et_test (ev_niS (ev_ixS (c := c) (ev_var rfl) ev_int hs (by rw [hc]; exact at0)) ev_str))))) (fun hb => g_ret hR ev_bl ⟨?_, rfl⟩) (fun hb => ?_)
      · show Out.ret (.bl false) = Out.ret (.bl (isNm s))
        unfold isNm nmL
        rw [hc]
        rw [Bool.or_eq_true, decide_eq_true_eq, Bool.not_eq_true', decide_eq_false_iff_not] at hb
        rcases hb with hb | hb
        · have : ¬ (c :: r).length ≤ 8 := by rw [← hl]; omega
          simp only [decide_eq_false this, Bool.false_and]
        · have : decide (c ∈ letL) = false := decide_eq_false hb
          simp only [this, Bool.false_and, Bool.and_false]
      · rw [Bool.or_eq_false_iff, decide_eq_false_iff_not, Bool.not_eq_false', decide_eq_true_eq] at hb
        refine g_ret hR (ev_cb (ea1 (evn_map (f := fun x => D.bl (decide (x ∈ letL) || decide (x ∈ digL))) (ei_str (ev_var rfl)) (by decide) (by rw [← str_len]; omega) ⟨trivial, fun _ => trivial⟩ (fun x hx => ev_orV (ev_inS (ev_var rfl) ev_str) fun _ => ev_inS (ev_var rfl) ev_str)).lst) (rc_all (b := false) (bs := s.cps.toList.map fun x => decide (x ∈ letL) || decide (x ∈ digL)) ?_)) ⟨?_, rfl⟩
        · rw [List.map_map]
          exact .vl
        · show Out.ret _ = Out.ret (.bl (isNm s))
          unfold isNm nmL
          rw [hc, List.all_map]
          have h1 : (c :: r).length ≤ 8 := by rw [← hl]; omega
          have h2 : decide (c ∈ letL) = true := decide_eq_true hb.2
          simp only [decide_eq_true h1, h2, Bool.true_and]
          rfl
  · exact q_when (et_or1 ((et_not (et_B (ev_isi (ev_var rfl) (tw_of ht) hk))).to rfl)) (fun _ => g_ret hR ev_bl ⟨by rw [hn], rfl⟩) (fun z => by cases z)
end
def ct_is_whole (K : PySem.W.Frag) : Ct := Ct1 fun a ka out => ∃ d, a = .val d ∧ tyD d ≠ none ∧ ka = [] ∧ out = Rt (.bl (isWh d)) []
section
variable {P : Program} {w : World} {K : PySem.W.Frag} {mg : Str → Option Value} {base : Heap}
theorem ok_is_whole (T : Tx K mg) : Fn P w K mg base 4 (He.ga K "is_whole") ["value"] (ct_is_whole K) := by
  obtain ⟨fd, F⟩ := T.d_is_whole
  refine fn_ok F sc_is_whole (fun _ _ _ _ _ _ us hl => match us, hl with | [_], _ => rfl) ct1_len (fun cdv A outer s H E hr => ⟨_, (pss_one (ps_ret (pe_and (pe_callB call_isi rfl T.n_isinstance (by decide +kernel) (pa_cons (pv 0) (pa_cons (pe_bltn (v := .ty "int") rfl T.n_int (by decide +kernel) rfl) pa_nil))) (pe_one (pe_not (pe_callB call_isi rfl T.n_isinstance (by decide +kernel) (pa_cons (pv 0) (pa_cons (pe_bltn (v := .ty "bool") rfl T.n_bool (by decide +kernel) rfl) pa_nil)))))))), fun ws ka out B F0 Q hC hR hX => ?_⟩)
  obtain ⟨a, rfl, d, rfl, hd, rfl, rfl⟩ := hC
  have other : (∃ i, d = .int i) ∨ (∃ b, d = .bl b) ∨ ∃ t, tyD d = some t ∧ kitOne K (.type t) (.type "int") = some false ∧ isWh d = false := by
    cases d with
    | non => exact .inr (.inr ⟨_, rfl, T.kt_NoneType_int, rfl⟩)
    | str b => exact .inr (.inr ⟨_, rfl, T.kt_str_int, rfl⟩)
    | lst ds => exact .inr (.inr ⟨_, rfl, T.kt_list_int, rfl⟩)
    | tup ds => exact .inr (.inr ⟨_, rfl, T.kt_tuple_int, rfl⟩)
    | int i => exact .inl ⟨i, rfl⟩
    | bl b => exact .inr (.inl ⟨b, rfl⟩)
    | _ => exact absurd rfl hd
  rcases other with ⟨i, rfl⟩ | ⟨b, rfl⟩ | ⟨t, ht, hk, hn⟩
  · exact g_ret hR (ev_andV1 (ev_isi (ev_var rfl) .int T.kt_int_int) (ev_notV (ev_isi (ev_var rfl) .int T.kt_int_bool))) ⟨rfl, rfl⟩
  · exact g_ret hR (ev_andV1 (ev_isi (ev_var rfl) .bl T.kt_bool_int) (ev_notV (ev_isi (ev_var rfl) .bl T.kt_bool_bool))) ⟨rfl, rfl⟩
  · exact g_ret hR (ev_andV0 (ev_isi (ev_var rfl) (tw_of ht) hk)) ⟨by rw [hn], rfl⟩
end
/-- the first of xs that ys has not -/
def fmD (xs ys : List Str) : D := match xs.find? fun x => !decide (x ∈ ys) with
  | some x => .str x
  | none => .non
theorem fmD_skip {xs ys : List Str} : (∀ x ∈ xs, x ∈ ys) → fmD xs ys = .non := fun h => by
  unfold fmD
  rw [List.find?_eq_none.mpr fun x hx => by simp [h x hx]]
theorem fmD_at {xs ys : List Str} {i : Nat} {x : Str} (h : ∀ y ∈ xs.take i, y ∈ ys) (hx : xs[i]? = some x) (hn : ¬ x ∈ ys) : fmD xs ys = .str x := by
  have e : xs = xs.take i ++ x :: xs.drop (i + 1) := by
    obtain ⟨hi, rfl⟩ := List.getElem?_eq_some_iff.mp hx
    rw [List.getElem_cons_drop, List.take_append_drop]
  unfold fmD
  rw [e, List.find?_append, List.find?_eq_none.mpr (fun y hy => by simp [h y hy]), Option.none_or, List.find?_cons_of_pos (by simp [hn])]
theorem fm_none {xs ys : List Str} : isNonD (fmD xs ys) = xs.all fun p => decide (p ∈ ys) := by
  unfold fmD
  cases h : xs.find? fun x => !decide (x ∈ ys) with
  | none =>
    symm
    rw [show isNonD D.non = true from rfl, List.all_eq_true]
    intro x hx
    have := List.find?_eq_none.mp h x hx
    simpa using this
  | some x =>
    symm
    rw [show isNonD (D.str x) = false from rfl, ← Bool.not_eq_true, List.all_eq_true]
    intro z
    have := List.find?_some h
    rw [Bool.not_eq_true', decide_eq_false_iff_not] at this
    exact this (of_decide_eq_true (z x (List.mem_of_find?_eq_some h)))
def ct_first_missing (K : PySem.W.Frag) : Ct := Ct2 fun a b ka out => ∃ xs ys t1 b1, Lk ka a t1 (stD xs) b1 ∧ HasS ka b ys ∧ out = Rt (fmD xs ys) ka
section
variable {P : Program} {w : World} {K : PySem.W.Frag} {mg : Str → Option Value} {base : Heap}
theorem ok_first_missing (T : Tx K mg) : Fn P w K mg base 4 (He.ga K "first_missing") ["names", "known"] (ct_first_missing K) := by
  obtain ⟨fd, F⟩ := T.d_first_missing
  refine fn_ok F sc_first_missing (fun _ _ _ _ _ _ us hl => match us, hl with | [_, _], _ => rfl) ct2_len (fun cdv A outer s H E hr => ⟨_, (pss_cons (ps_for (passes_of rfl) rfl (pi_seq (pv 0)) (pg_name (i := 2) sc_first_missing.nd rfl (by first | exact Or.inl rfl | exact Or.inr rfl)) (pss_one (ps_if (pt_cmpR (op_niD (hu1 hr)) (pv 2) (pv 1) (by with_unfolding_all rfl))
      (pss_one (ps_ret (pv 2)))
      pss_nil)))
      (pss_one (ps_ret pe_non))), fun ws ka out B F0 Q hC hR hX => ?_⟩)
  obtain ⟨a, b, rfl, xs, ys, t1, b1, l1, l2, rfl⟩ := hC
  refine q_forn (ei_seq (ev_var rfl) l1) (fun i ro ka' => ∃ v, ro = [some a, some b, v] ∧ ka' = ka ∧ ∀ y ∈ xs.take i, y ∈ ys) ⟨none, rfl, rfl, fun y hy => by cases hy⟩ (fun i ro2 ka2 ⟨v, _, e, _⟩ => e ▸ l1.stay) (fun i w ro2 ka2 ta' hw ⟨v, e1, e2, hs⟩ => ?_) (fun ro2 ka2 ta' ⟨v, e1, e2, hs⟩ _ => ?_)
  · subst e1 e2
    rw [List.getElem?_map] at hw
    cases hx : xs[i]? with
    | none => rw [show (stD xs)[i]? = none by unfold stD; rw [List.getElem?_map, hx]; rfl] at hw; cases hw
    | some x =>
      rw [stD_get hx] at hw
      cases hw
      have hp : part b1 (.str x) = .val (.str x) := by cases b1 <;> rfl
      rw [hp]
      refine g_if (et_test (ev_niH (ev_var rfl) (ev_var rfl) l2)) (fun hb => g_ret hR (ev_var rfl) ⟨?_, rfl⟩) (fun hb => g_next (g_jp ⟨_, rfl, rfl, fun y hy => ?_⟩))
      · rw [Bool.not_eq_true', decide_eq_false_iff_not] at hb
        rw [fmD_at hs hx hb]
      · rw [Bool.not_eq_false', decide_eq_true_eq] at hb
        rw [take_succ_some hx] at hy
        rcases List.mem_append.mp hy with hy | hy
        · exact hs y hy
        · rw [List.mem_singleton.mp hy]; exact hb
  · subst e1 e2
    rw [List.length_map, stD_len, List.take_length] at hs
    exact g_ret hR ev_non ⟨by rw [fmD_skip hs], rfl⟩
end
/-! ### nets as data -/
/-- a lane, its start, its end -/
abbrev Ln := Str × Str × Str
def lnD (r : Ln) : D := .tup [.str r.2.1, .str r.2.2]
def enD (es : List Ln) : List (Key × D) := es.map fun r => (.inr r.1, lnD r)
def lnN (es : List Ln) : List Str := es.map (·.1)
def NetD (K : PySem.W.Frag) (ps : List Str) (es : List Ln) : D := .ins (He.ga K "Net") [("order", .lst (stD ps)), ("ends_by_lane", .dic (enD es))]
def NetC (K : PySem.W.Frag) (a o d : Addr) (ps : List Str) (es : List Ln) : Cells := [(a, .ins (He.ga K "Net") [("order", .adr o), ("ends_by_lane", .adr d)]), (o, .lst (stD ps)), (d, .dic (enD es))]
theorem frz_net {K : PySem.W.Frag} {kt : Cells} {a o d : Addr} {ps : List Str} {es : List Ln} (h : ∀ p ∈ NetC K a o d ps es, p ∈ kt) : FrzD K kt a (NetD K ps es) :=
  frz_i (h _ List.mem_cons_self) ⟨_, _, rfl, .a (frz_l (h _ (List.mem_cons_of_mem _ List.mem_cons_self)) (FzL.same _)), _, _, rfl, .a (frz_d (h _ (List.mem_cons_of_mem _ (List.mem_cons_of_mem _ List.mem_cons_self)))), rfl⟩
theorem net_kd {K : PySem.W.Frag} {a o d : Addr} {ps : List Str} {es : List Ln} : ∀ p ∈ NetC K a o d ps es, ndK p.2 = true := fun p hp => by
  rcases List.mem_cons.mp hp with rfl | hp
  · rfl
  · rcases List.mem_cons.mp hp with rfl | hp
    · rfl
    · rw [List.mem_singleton.mp hp]; rfl
theorem net_ndI {K : PySem.W.Frag} {a o d : Addr} {ps : List Str} {es : List Ln} : ∀ p ∈ NetC K a o d ps es, ndI p.2 = true := fun p hp => by
  rcases List.mem_cons.mp hp with rfl | hp
  · rfl
  · rcases List.mem_cons.mp hp with rfl | hp
    · exact tIL_stD ps
    · rw [List.mem_singleton.mp hp]
      refine List.all_eq_true.mpr fun x hx => ?_
      obtain ⟨r, _, rfl⟩ := List.mem_map.mp hx
      rfl
theorem enD_len (es : List Ln) : (enD es).length = es.length := List.length_map _
theorem lnN_len (es : List Ln) : (lnN es).length = es.length := List.length_map _
theorem enD_app (es fs : List Ln) : enD (es ++ fs) = enD es ++ enD fs := List.map_append
theorem enD_get {es : List Ln} (hn : (lnN es).Nodup) {i : Nat} {r : Ln} (h : es[i]? = some r) : getT (enD es) (.inr r.1) = some (lnD r) := by
  induction es generalizing i with
  | nil => cases h
  | cons x l ih =>
    have hn2 := List.nodup_cons.mp hn
    unfold getT enD
    rw [List.map_cons, List.find?_cons]
    cases i with
    | zero =>
      cases h
      rw [decide_eq_true rfl]
      rfl
    | succ i =>
      have hm : r.1 ∈ lnN l := List.mem_map.mpr ⟨r, List.mem_of_getElem? (by simpa using h), rfl⟩
      have ne : ¬ (Sum.inr x.1 : Int ⊕ Str) = .inr r.1 := fun z => hn2.1 (by have e := Sum.inr.inj z; have hm' : r.1 ∈ l.map (fun x : Ln => x.1) := hm; rw [← e] at hm'; exact hm')
      rw [show decide ((Sum.inr x.1 : Int ⊕ Str) = .inr r.1) = false from decide_eq_false ne]
      exact ih hn2.2 (by simpa using h)
theorem enD_getm {es : List Ln} (hn : (lnN es).Nodup) {r : Ln} (h : r ∈ es) : getT (enD es) (.inr r.1) = some (lnD r) := by
  obtain ⟨i, hi⟩ := List.mem_iff_getElem?.mp h
  exact enD_get hn hi
theorem enD_has {es : List Ln} {s : Str} : hasT (enD es) (.inr s) = decide (s ∈ lnN es) := by
  unfold hasT enD lnN
  rw [List.any_map, Bool.eq_iff_iff, List.any_eq_true, decide_eq_true_eq, List.mem_map]
  constructor
  · rintro ⟨r, h1, h2⟩
    exact ⟨r, h1, Sum.inr.inj (of_decide_eq_true h2)⟩
  · rintro ⟨r, h1, h2⟩
    exact ⟨r, h1, decide_eq_true (congrArg Sum.inr h2)⟩
theorem getT_some {κ α : Type} [DecidableEq κ] (kvs : List (κ × α)) (k : κ) : (getT kvs k).isSome = hasT kvs k := by
  unfold getT hasT
  rw [Option.isSome_map]
  induction kvs with
  | nil => rfl
  | cons x l ih =>
    rw [List.find?_cons, List.any_cons]
    cases h : decide (x.1 = k) with
    | true => rfl
    | false => rw [ih]; rfl
theorem enD_in (es : List Ln) (s : Str) : (getT (enD es) (.inr s)).isSome = decide (s ∈ lnN es) := (getT_some _ _).trans enD_has
theorem enD_put {es : List Ln} {r : Ln} (h : ¬ r.1 ∈ lnN es) : putT (enD es) (.inr r.1) (lnD r) = enD (es ++ [r]) := by
  unfold putT
  rw [if_neg (by rw [enD_has, decide_eq_true_eq]; exact h), enD_app]
  rfl
theorem enD_take {es : List Ln} (hn : (lnN es).Nodup) {i : Nat} {r : Ln} (h : es[i]? = some r) : putT (enD (es.take i)) (.inr r.1) (lnD r) = enD (es.take (i + 1)) := by
  rw [enD_put, take_succ_some h]
  intro hm
  have e : lnN es = lnN (es.take i) ++ (r.1 :: lnN (es.drop (i + 1))) := by
    obtain ⟨hi, rfl⟩ := List.getElem?_eq_some_iff.mp h
    unfold lnN
    have e2 : es = es.take i ++ es[i] :: es.drop (i + 1) := by rw [List.getElem_cons_drop, List.take_append_drop]
    exact (congrArg (List.map fun x : Ln => x.1) e2).trans List.map_append
  rw [e, List.nodup_append] at hn
  exact hn.2.2 _ hm _ List.mem_cons_self rfl
theorem enD_at {es : List Ln} {i : Nat} {kv : Key × D} (h : (enD es)[i]? = some kv) : ∃ r, es[i]? = some r ∧ kv = (.inr r.1, lnD r) := by
  unfold enD at h
  rw [List.getElem?_map] at h
  obtain ⟨r, h1, h2⟩ := Option.map_eq_some_iff.mp h
  exact ⟨r, h1, h2.symm⟩
def rowOf (es : List Ln) (l : Str) : Option Ln := es.find? fun r => decide (r.1 = l)
theorem rowOf_mem {es : List Ln} {l : Str} {r : Ln} (h : rowOf es l = some r) : r ∈ es ∧ r.1 = l := ⟨List.mem_of_find?_eq_some h, of_decide_eq_true (p := r.1 = l) (List.find?_some (p := fun r : Ln => decide (r.1 = l)) h)⟩
theorem rowOf_in {es : List Ln} {l : Str} (h : l ∈ lnN es) : ∃ r, rowOf es l = some r := by
  obtain ⟨r, hr, e⟩ := List.mem_map.mp h
  cases hf : rowOf es l with
  | some r => exact ⟨r, rfl⟩
  | none =>
    have := List.find?_eq_none.mp hf r hr
    exact absurd (decide_eq_true e) this
theorem lnN_at {es : List Ln} {i : Nat} {r : Ln} (h : es[i]? = some r) : (lnN es)[i]? = some r.1 := by
  unfold lnN
  rw [List.getElem?_map, h]
  rfl
def stO (es : List Ln) (x : Str) : Str := match rowOf es x with
  | some r => r.2.1
  | none => ""
def enO (es : List Ln) (x : Str) : Str := match rowOf es x with
  | some r => r.2.2
  | none => ""
theorem row_eqn {es : List Ln} (hn : (lnN es).Nodup) {r : Ln} (m : r ∈ es) : rowOf es r.1 = some r := by
  obtain ⟨r', h⟩ := rowOf_in (List.mem_map.mpr ⟨r, m, rfl⟩ : r.1 ∈ lnN es)
  obtain ⟨m', e⟩ := rowOf_mem h
  obtain ⟨i, hi⟩ := List.mem_iff_getElem?.mp m
  obtain ⟨j, hj⟩ := List.mem_iff_getElem?.mp m'
  have hij : i = j := by
    have h1 := lnN_at hi
    have h2 := lnN_at hj
    rw [e] at h2
    exact (List.getElem?_inj (List.getElem?_eq_some_iff.mp h1).1 hn).mp (h1.trans h2.symm)
  subst hij
  rw [hi] at hj
  rw [h, Option.some.inj hj]
theorem stO_eq {es : List Ln} (hn : (lnN es).Nodup) {r : Ln} (m : r ∈ es) : stO es r.1 = r.2.1 := by unfold stO; rw [row_eqn hn m]
theorem enO_eq {es : List Ln} (hn : (lnN es).Nodup) {r : Ln} (m : r ∈ es) : enO es r.1 = r.2.2 := by unfold enO; rw [row_eqn hn m]
def ct_Net___init (K : PySem.W.Frag) : Ct := Ct3 fun s o e ka out => ∃ a t b ps es, s = .val (.adr a) ∧ ka = [(a, .ins (He.ga K "Net") [])] ∧ Lk ka o t (stD ps) b ∧ ps.length ≤ 50000 ∧ es.length ≤ 50000 ∧ (lnN es).Nodup ∧ ((e = .val .non ∧ es = []) ∨ e = .val (.dic (enD es))) ∧
  out = fun o' k => ∃ o d, o' = .ret .non ∧ k = NetC K a o d ps es
section
variable {P : Program} {w : World} {K : PySem.W.Frag} {mg : Str → Option Value} {base : Heap}
theorem ok_Net___init (T : Tx K mg) : FnE P w K mg base 4 (He.ma K (He.ga K "Net") "__init__") ["self", "order", "ends_by_lane"] [.ref (He.dflAt ("Net", some "__init__") 0 K), .non] (ct_Net___init K) := by
  obtain ⟨fd, F⟩ := T.d_Net___init
  refine fn_okE F sc_Net___init (F.binds1 1 0 (by simp) rfl fun _ _ _ _ _ _ _ us its hu hi => match us, its, hu, hi with | [_], [_, _], _, _ => ⟨_, rfl, rfl⟩) (F.binds1 3 2 (by simp) rfl fun _ _ _ _ _ _ _ us its hu hi => match us, its, hu, hi with | [_, _, _], [_, _], _, _ => ⟨_, rfl, rfl⟩) ct3_len (fun cdv A outer s H E hr => ⟨_, (pss_cons (ps_set (i := 3) sc_Net___init.nd rfl (by first | exact Or.inl rfl | exact Or.inr rfl) (pe_ifExp (pt_cmpR op_isN1 (pv 2) pe_non (nomark _)) pe_dnewK (pv 2)))
      (pss_cons (ps_fld (pv 0) (pe_callTy call_lstU rfl T.n_list (by decide +kernel) (pa_cons (pv 1) pa_nil)) rfl)
      (pss_one (ps_fld (pv 0) (pe_lkE (pe_dc (tk := (tVar 4)) (tv := (tDGet (tVar 3) (tVar 4))) (tt := tYes) (own := [("lane", 4)]) rfl sc_Net___init.nd (pi_keys (pv 3)) (blk_ok ["self", "order", "ends_by_lane", "known", "lane"] (defScope s_Net___init) rfl rfl (by decide +kernel)) (fun _ _ _ _ _ => (pg_name (i := 4) sc_Net___init.nd rfl (by first | exact Or.inl rfl | exact Or.inr rfl))) (fun _ _ _ _ _ => pts_nil) (fun _ _ _ _ _ => (pv 4)) (fun _ _ _ _ _ => (pe_dget (hu1 hr) (pv 3) (pv 4) fun _ _ => rfl)))) rfl)))), fun ws ka out B F0 Q hC hR hX => ?_⟩)
  obtain ⟨s, o, e, rfl, a, t, b, ps, es, rfl, rfl, lo, hps, hes, hn, he, rfl⟩ := hC
  have main : Gp K B F0 [] (tSeq (sFld K (tVar 0) (tCB (rLstU K) (tCons (tVar 1) tNil)) "order") (sFld K (tVar 0) (tLkE (tDc (iKeys (tVar 3)) (gName 4) tYes (tVar 4) (tDGet (tVar 3) (tVar 4)) [4])) "ends_by_lane") { nx := fun _ H' => Q .non H', rt := Q })
      [some (.val (.adr a)), some o, some e, some (.val (.dic (enD es))), none] [(a, .ins (He.ga K "Net") [])] := by
    refine q_fldR (C := He.ga K "Net") (a := a) (evn_cb (ea1 (ev_var rfl)) (rcn_lst lo (sqf_stD b ps))).toR T.cl_Net T.na_Net_order (fun w k1 ⟨p, h1, h2⟩ => ⟨.adr p, k1, 0, [], h1, ev_var rfl, by rw [h2]; rfl, by decide, ?_⟩)
    subst h2
    refine g_fldR (C := He.ga K "Net") (a := a) (evr_dcK (evp_var rfl) (by simp) (by rw [enD_len]; omega) (fun i acc k => acc = enD (es.take i) ∧ k = [(a, .ins (He.ga K "Net") [("order", .adr p)]), (p, .lst (stD ps))]) ⟨rfl, rfl⟩ (fun i kv acc k hk ⟨e1, e2⟩ => ?_)).toR T.cl_Net T.na_Net_ends_by_lane (fun w k1 ⟨d, n, k0, h1, ⟨acc, h2, h3, h4⟩, h5⟩ => ⟨.adr d, k1, 0, [("order", .adr p)], h1, ev_var rfl, by rw [h5, h4]; rfl, (show 1 < 900 by decide), ?_⟩)
    · obtain ⟨r, hr1, rfl⟩ := enD_at hk
      subst e1 e2
      exact .inr ⟨_, _, _, .inr r.1, lnD r, et_yes, ev_var rfl, ev_dgetV (ev_var rfl) (ev_var rfl) .v (enD_get hn hr1), enD_take hn hr1, rfl⟩
    · subst h5 h4 h2 h3
      rw [enD_len, List.take_length]
      exact g_end hR ⟨p, d, rfl, rfl⟩
  rcases he with ⟨rfl, rfl⟩ | rfl
  · exact q_asgR (evr_ifT ((et_test (ev_isN (ev_var rfl))).to rfl) evn_dnew.toR) fun w k1 ⟨a1, h1, h2⟩ => by
      subst h1 h2
      exact Gp.frzK (i := 3) rfl (List.Perm.refl _) main
  · exact q_asg (ev_ifF ((et_test (ev_isN (ev_var rfl))).to rfl) (ev_var rfl)) main
end
/-- w is a net: its two fields -/
structure NetW (K : PySem.W.Frag) (ka : Cells) (s : W) (ps : List Str) (es : List Ln) : Prop where
  as : s = .val (NetD K ps es) ∨ ∃ a o d, s = .val (.adr a) ∧ ka = NetC K a o d ps es
theorem NetW.order {K : PySem.W.Frag} {ka : Cells} {s : W} {ps : List Str} {es : List Ln} {te : TE} {ro : Ro} (h : NetW K ka s ps es) (c : Cls K (He.ga K "Net")) (nf : NoAttr K (He.ga K "Net") "order") (he : EvD K te ro ka s ka) :
    ∃ x, EvD K (tFld K te "order") ro ka x ka ∧ Lk ka x false (stD ps) false := by
  rcases h.as with rfl | ⟨a, o, d, rfl, rfl⟩
  · exact ⟨_, ev_fld he .v c nf rfl, .vl⟩
  · exact ⟨_, ev_fld he (.c 0 rfl) c nf rfl, .ce 1 rfl⟩
theorem NetW.ends {K : PySem.W.Frag} {ka : Cells} {s : W} {ps : List Str} {es : List Ln} {te : TE} {ro : Ro} (h : NetW K ka s ps es) (c : Cls K (He.ga K "Net")) (nf : NoAttr K (He.ga K "Net") "ends_by_lane") (he : EvD K te ro ka s ka) :
    ∃ x, EvD K (tFld K te "ends_by_lane") ro ka x ka ∧ Dk ka x (enD es) false := by
  rcases h.as with rfl | ⟨a, o, d, rfl, rfl⟩
  · exact ⟨_, ev_fld he .v c nf rfl, .v⟩
  · exact ⟨_, ev_fld he (.c 0 rfl) c nf rfl, .ce 2 rfl⟩
def ct_Net_posts (K : PySem.W.Frag) : Ct := Ct1 fun s ka out => ∃ ps es, NetW K ka s ps es ∧ out = Rt (.tup (stD ps)) ka
section
variable {P : Program} {w : World} {K : PySem.W.Frag} {mg : Str → Option Value} {base : Heap}
theorem ok_Net_posts (T : Tx K mg) : Fn P w K mg base 4 (pga K (He.ga K "Net") "posts") ["self"] (ct_Net_posts K) := by
  obtain ⟨fd, F⟩ := T.d_Net_posts
  refine fn_ok F sc_Net_posts (fun _ _ _ _ _ _ us hl => match us, hl with | [_], _ => rfl) ct1_len (fun cdv A outer s H E hr => ⟨_, (pss_one (ps_ret (pe_callTy call_tupU rfl T.n_tuple (by decide +kernel) (pa_cons (pe_fld (pv 0) rfl) pa_nil)))), fun ws ka out B F0 Q hC hR hX => ?_⟩)
  obtain ⟨s, rfl, ps, es, h, rfl⟩ := hC
  obtain ⟨x, h1, h2⟩ := h.order T.cl_Net T.na_Net_order (te := tVar 0) (ro := [some s]) (ev_var rfl)
  exact g_ret hR (ev_cb (ea1 h1) (rc_tupL h2 (sqf_stD _ _))) ⟨rfl, rfl⟩
end
def ct_Net_lanes (K : PySem.W.Frag) : Ct := Ct1 fun s ka out => ∃ ps es, s = .val (NetD K ps es) ∧ es.length ≤ 50000 ∧ ka = [] ∧ out = Rt (.tup (stD (lnN es))) []
section
variable {P : Program} {w : World} {K : PySem.W.Frag} {mg : Str → Option Value} {base : Heap}
theorem ok_Net_lanes (T : Tx K mg) : Fn P w K mg base 4 (pga K (He.ga K "Net") "lanes") ["self"] (ct_Net_lanes K) := by
  obtain ⟨fd, F⟩ := T.d_Net_lanes
  refine fn_ok F sc_Net_lanes (fun _ _ _ _ _ _ us hl => match us, hl with | [_], _ => rfl) ct1_len (fun cdv A outer s H E hr => ⟨_, (pss_one (ps_ret (pe_callTy call_tupU rfl T.n_tuple (by decide +kernel) (pa_cons (pe_lkE (pe_lc (te := (tVar 1)) (tt := tYes) (own := [("lane", 1)]) rfl sc_Net_lanes.nd (pi_keys (pe_fld (pv 0) rfl)) (blk_ok ["self", "lane"] (defScope s_Net_lanes) rfl rfl (by decide +kernel)) (fun _ _ _ _ _ => (pg_name (i := 1) sc_Net_lanes.nd rfl (by first | exact Or.inl rfl | exact Or.inr rfl))) (fun _ _ _ _ _ => pts_nil) (fun _ _ _ _ _ => (pv 1)))) pa_nil)))), fun ws ka out B F0 Q hC hR hX => ?_⟩)
  obtain ⟨s, rfl, ps, es, rfl, hl, rfl, rfl⟩ := hC
  refine g_ret hR (ev_cb (ea1 ((evr_lcK (evp_fld (evp_var rfl) T.cl_Net T.na_Net_ends_by_lane rfl) (by decide) (by rw [enD_len]; omega) (fun i acc k => acc = stD (lnN (es.take i)) ∧ k = []) ⟨rfl, rfl⟩ (fun i kv acc k hk ⟨e1, e2⟩ => ?_)).lstD (ds := stD (lnN es)) fun n k ⟨acc, e1, e2, e3⟩ => ⟨?_, e3⟩)) (rc_tupL .vl (.inl rfl))) ⟨rfl, rfl⟩
  all_goals first
    | (rw [e1, e2, enD_len, List.take_length]; done)
    | (subst e1 e2
       obtain ⟨r, hr2, rfl⟩ := enD_at hk
       refine .inr ⟨_, _, .str r.1, et_yes, ev_var rfl, ?_, rfl⟩
       rw [take_succ_some hr2]
       have e : lnN (es.take i ++ [r]) = lnN (es.take i) ++ [r.1] := List.map_append
       rw [e, ← stD_app]
       rfl)
end
/-- how post ends -/
def poO (K : PySem.W.Frag) (a o d : Addr) (ps : List Str) (es : List Ln) (x : D) : Oc :=
  if isNmD x = false then Xt (He.ga K "BadName") [("name", x)] (NetC K a o d ps es)
  else match x with
    | .str s => if s ∈ ps then Xt (He.ga K "NameTaken") [("name", x)] (NetC K a o d ps es) else Rt .non (NetC K a o d (ps ++ [s]) es)
    | _ => fun _ _ => True
def ct_Net_post (K : PySem.W.Frag) : Ct := Ct2 fun s b ka out => ∃ a o d ps es x, s = .val (.adr a) ∧ b = .val x ∧ nmOk x ∧ ps.length < 50000 ∧ ka = NetC K a o d ps es ∧ out = poO K a o d ps es x
section
variable {P : Program} {w : World} {K : PySem.W.Frag} {mg : Str → Option Value} {base : Heap}
theorem ok_Net_post (T : Tx K mg) (F_is_name : Fn P w K mg base 4 (He.ga K "is_name") ["word"] (ct_is_name K)) (Z_BadName : Xn P w K mg base (He.ga K "BadName") "name") (Z_NameTaken : Xn P w K mg base (He.ga K "NameTaken") "name") : Fn P w K mg base 6 (He.ma K (He.ga K "Net") "post") ["self", "name"] (ct_Net_post K) := by
  obtain ⟨fd, F⟩ := T.d_Net_post
  refine fn_ok F sc_Net_post (fun _ _ _ _ _ _ us hl => match us, hl with | [_, _], _ => rfl) ct2_len (fun cdv A outer s H E hr => ⟨_, (pss_cons (ps_if (pt_not (pt_val (pe_call (F_is_name.up (by decide)).ok hr rfl T.g_is_name.1 T.g_is_name.2 (F_is_name.up (by decide)).bn .nil (pass_own rfl rfl rfl rfl) (pa_cons (pv 1) pa_nil))))
      (pss_one (ps_raise rfl (takes_of rfl rfl rfl rfl) (pmk_oex Z_BadName.xc.oex Z_BadName.all.1 Z_BadName.all.2.1 Z_BadName.all.2.2.1 (hr.mono (by decide)) Z_BadName.all.2.2.2 .nil passes_no rfl T.g_BadName.1 (pa_cons (pv 1) pa_nil))))
      pss_nil)
      (pss_cons (ps_if (pt_cmpR op_inU (pv 1) (pe_fld (pv 0) rfl) (by with_unfolding_all rfl))
      (pss_one (ps_raise rfl (takes_of rfl rfl rfl rfl) (pmk_oex Z_NameTaken.xc.oex Z_NameTaken.all.1 Z_NameTaken.all.2.1 Z_NameTaken.all.2.2.1 (hr.mono (by decide)) Z_NameTaken.all.2.2.2 .nil passes_no rfl T.g_NameTaken.1 (pa_cons (pv 1) pa_nil))))
      pss_nil)
      (pss_one (ps_expr (pe_bm PySem.F.plainAttrs_list PySem.F.slot_list_append PySem.F.type_list_append mt_append (pe_fld (pv 0) rfl) (pa_cons (pv 1) pa_nil)))))), fun ws ka out B F0 Q hC hR hX => ?_⟩)
  obtain ⟨s, b, rfl, a, o, d, ps, es, x, rfl, rfl, hx, hl, rfl, rfl⟩ := hC
  refine q_when (et_not (et_B (ev_callP (ea1 (ev_var rfl)) ⟨_, rfl, x, rfl, hx, rfl, rfl⟩))) (fun hb => g_raise1 hX (ea1 (ev_var rfl)) Z_BadName.xc.oex Z_BadName.no ?_) (fun hb => ?_)
  · rw [Bool.not_eq_true'] at hb
    unfold poO
    rw [if_pos hb]
    exact ⟨rfl, rfl⟩
  rw [Bool.not_eq_false'] at hb
  have hs : ∃ s, x = .str s := by
    cases x with
    | str s => exact ⟨s, rfl⟩
    | _ => cases hb
  obtain ⟨s, rfl⟩ := hs
  have fo : ∀ {ro : Ro}, ro[0]? = some (some (.val (.adr a))) → EvD K (tFld K (tVar 0) "order") ro (NetC K a o d ps es) (.val (.adr o)) (NetC K a o d ps es) := fun h => ev_fld (ev_var h) (.c 0 rfl) T.cl_Net T.na_Net_order rfl
  refine q_when (et_test (ev_inL (ev_var rfl) (fo rfl) (.ce 1 rfl))) (fun hm => g_raise1 hX (ea1 (ev_var rfl)) Z_NameTaken.xc.oex Z_NameTaken.no ?_) (fun hm => ?_)
  · rw [decide_eq_true_eq] at hm
    unfold poO
    rw [if_neg (by rw [hb]; decide)]
    show (if s ∈ ps then _ else _ : Oc) _ _
    rw [if_pos hm]
    exact ⟨rfl, rfl⟩
  · rw [decide_eq_false_iff_not] at hm
    refine g_app (j0 := 1) (j := 1) (fo rfl) rfl (ev_var rfl) rfl (by rw [stD_len]; omega) (g_end hR ?_)
    unfold poO
    rw [if_neg (by rw [hb]; decide)]
    show (if s ∈ ps then _ else _ : Oc) _ _
    rw [if_neg hm]
    refine ⟨rfl, ?_⟩
    unfold NetC
    rw [← stD_app]
    rfl
end
/-- how lane ends -/
def laO (K : PySem.W.Frag) (a o d : Addr) (ps : List Str) (es : List Ln) (x : D) (st en : Str) : Oc :=
  if isNmD x = false then Xt (He.ga K "BadName") [("name", x)] (NetC K a o d ps es)
  else match x with
    | .str s => if s ∈ lnN es then Xt (He.ga K "NameTaken") [("name", x)] (NetC K a o d ps es) else if ¬ st ∈ ps then Xt (He.ga K "NoPost") [("name", .str st)] (NetC K a o d ps es) else if ¬ en ∈ ps then Xt (He.ga K "NoPost") [("name", .str en)] (NetC K a o d ps es)
      else Rt .non (NetC K a o d ps (es ++ [(s, st, en)]))
    | _ => fun _ _ => True
def ct_Net_lane (K : PySem.W.Frag) : Ct := Ct4 fun s b c e ka out => ∃ a o d ps es x st en, s = .val (.adr a) ∧ b = .val x ∧ nmOk x ∧ c = .val (.str st) ∧ e = .val (.str en) ∧ es.length < 50000 ∧ ka = NetC K a o d ps es ∧ out = laO K a o d ps es x st en
section
variable {P : Program} {w : World} {K : PySem.W.Frag} {mg : Str → Option Value} {base : Heap}
theorem ok_Net_lane (T : Tx K mg) (F_is_name : Fn P w K mg base 4 (He.ga K "is_name") ["word"] (ct_is_name K)) (Z_BadName : Xn P w K mg base (He.ga K "BadName") "name") (Z_NameTaken : Xn P w K mg base (He.ga K "NameTaken") "name") (Z_NoPost : Xn P w K mg base (He.ga K "NoPost") "name") : Fn P w K mg base 6 (He.ma K (He.ga K "Net") "lane") ["self", "name", "start", "end"] (ct_Net_lane K) := by
  obtain ⟨fd, F⟩ := T.d_Net_lane
  refine fn_ok F sc_Net_lane (fun _ _ _ _ _ _ us hl => match us, hl with | [_, _, _, _], _ => rfl) ct4_len (fun cdv A outer s H E hr => ⟨_, (pss_cons (ps_if (pt_not (pt_val (pe_call (F_is_name.up (by decide)).ok hr rfl T.g_is_name.1 T.g_is_name.2 (F_is_name.up (by decide)).bn .nil (pass_own rfl rfl rfl rfl) (pa_cons (pv 1) pa_nil))))
      (pss_one (ps_raise rfl (takes_of rfl rfl rfl rfl) (pmk_oex Z_BadName.xc.oex Z_BadName.all.1 Z_BadName.all.2.1 Z_BadName.all.2.2.1 (hr.mono (by decide)) Z_BadName.all.2.2.2 .nil passes_no rfl T.g_BadName.1 (pa_cons (pv 1) pa_nil))))
      pss_nil)
      (pss_cons (ps_if (pt_cmp (pc_din (hu1 hr) (pv 1) (pe_fld (pv 0) rfl)) (by with_unfolding_all rfl))
      (pss_one (ps_raise rfl (takes_of rfl rfl rfl rfl) (pmk_oex Z_NameTaken.xc.oex Z_NameTaken.all.1 Z_NameTaken.all.2.1 Z_NameTaken.all.2.2.1 (hr.mono (by decide)) Z_NameTaken.all.2.2.2 .nil passes_no rfl T.g_NameTaken.1 (pa_cons (pv 1) pa_nil))))
      pss_nil)
      (pss_cons (ps_for (passes_of rfl) rfl (pi_seq (pe_tup (pa_cons (pv 2) (pa_cons (pv 3) pa_nil)))) (pg_name (i := 4) sc_Net_lane.nd rfl (by first | exact Or.inl rfl | exact Or.inr rfl)) (pss_one (ps_if (pt_cmpR op_niU (pv 4) (pe_fld (pv 0) rfl) (by with_unfolding_all rfl))
      (pss_one (ps_raise rfl (takes_of rfl rfl rfl rfl) (pmk_oex Z_NoPost.xc.oex Z_NoPost.all.1 Z_NoPost.all.2.1 Z_NoPost.all.2.2.1 (hr.mono (by decide)) Z_NoPost.all.2.2.2 .nil passes_no rfl T.g_NoPost.1 (pa_cons (pv 4) pa_nil))))
      pss_nil)))
      (pss_one (ps_dput (hu1 hr) (pe_fld (pv 0) rfl) (pv 1) (pe_tup (pa_cons (pv 2) (pa_cons (pv 3) pa_nil))) rfl))))), fun ws ka out B F0 Q hC hR hX => ?_⟩)
  obtain ⟨s, b, c, e, rfl, a, o, d, ps, es, x, st, en, rfl, rfl, hx, rfl, rfl, hl, rfl, rfl⟩ := hC
  refine q_when (et_not (et_B (ev_callP (ea1 (ev_var rfl)) ⟨_, rfl, x, rfl, hx, rfl, rfl⟩))) (fun hb => g_raise1 hX (ea1 (ev_var rfl)) Z_BadName.xc.oex Z_BadName.no ?_) (fun hb => ?_)
  · rw [Bool.not_eq_true'] at hb
    unfold laO
    rw [if_pos hb]
    exact ⟨rfl, rfl⟩
  rw [Bool.not_eq_false'] at hb
  have hs : ∃ s, x = .str s := by
    cases x with
    | str s => exact ⟨s, rfl⟩
    | _ => cases hb
  obtain ⟨s, rfl⟩ := hs
  have hb' : ¬ isNmD (.str s) = false := by rw [hb]; decide
  have fo : ∀ {ro : Ro}, ro[0]? = some (some (.val (.adr a))) → EvD K (tFld K (tVar 0) "order") ro (NetC K a o d ps es) (.val (.adr o)) (NetC K a o d ps es) := fun h => ev_fld (ev_var h) (.c 0 rfl) T.cl_Net T.na_Net_order rfl
  have fe : ∀ {ro : Ro}, ro[0]? = some (some (.val (.adr a))) → EvD K (tFld K (tVar 0) "ends_by_lane") ro (NetC K a o d ps es) (.val (.adr d)) (NetC K a o d ps es) := fun h => ev_fld (ev_var h) (.c 0 rfl) T.cl_Net T.na_Net_ends_by_lane rfl
  refine q_when (et_B ((ev_din (ev_var rfl) (fe rfl) (.ce 2 rfl)).to (by rw [enD_in]))) (fun hm => g_raise1 hX (ea1 (ev_var rfl)) Z_NameTaken.xc.oex Z_NameTaken.no ?_) (fun hm => ?_)
  · rw [decide_eq_true_eq] at hm
    unfold laO
    rw [if_neg hb']
    show (if s ∈ lnN es then _ else _ : Oc) _ _
    rw [if_pos hm]
    exact ⟨rfl, rfl⟩
  rw [decide_eq_false_iff_not] at hm
  have hO : laO K a o d ps es (.str s) st en = if ¬ st ∈ ps then Xt (He.ga K "NoPost") [("name", .str st)] (NetC K a o d ps es) else if ¬ en ∈ ps then Xt (He.ga K "NoPost") [("name", .str en)] (NetC K a o d ps es)
        else Rt .non (NetC K a o d ps (es ++ [(s, st, en)])) := by
    unfold laO
    rw [if_neg hb']
    show (if s ∈ lnN es then _ else _ : Oc) = _
    rw [if_neg hm]
  rw [hO] at hR hX
  refine q_forn (ei_seq (ev_tup (ds := [.str st, .str en]) (ea2 (ev_var rfl) (ev_var rfl)) (show 2 ≤ 100000 by decide)) .vt) (fun i ro ka' => ∃ v, ro = [some (.val (.adr a)), some (.val (.str s)), some (.val (.str st)), some (.val (.str en)), v] ∧ ka' = NetC K a o d ps es ∧ (0 < i → st ∈ ps) ∧ (1 < i → en ∈ ps)) ⟨none, rfl, rfl, fun z => absurd z (by decide), fun z => absurd z (by decide)⟩ (fun i ro2 ka2 _ => trivial) (fun i w ro2 ka2 ta' hw ⟨v, e1, e2, h1, h2⟩ => ?_) (fun ro2 ka2 ta' ⟨v, e1, e2, h1, h2⟩ _ => ?_)
  · subst e1 e2
    match i, hw with
    | 0, hw =>
      cases hw
      refine g_if (et_test (ev_niL (ev_var rfl) (fo rfl) (.ce 1 rfl))) (fun hm => g_raise1 hX (ea1 (ev_var rfl)) Z_NoPost.xc.oex Z_NoPost.no ?_) (fun hm => g_next (g_jp ⟨_, rfl, rfl, fun _ => ?_, fun z => by omega⟩))
      · rw [Bool.not_eq_true', decide_eq_false_iff_not] at hm
        rw [if_pos hm]
        exact ⟨rfl, rfl⟩
      · rw [Bool.not_eq_false', decide_eq_true_eq] at hm
        exact hm
    | 1, hw =>
      cases hw
      refine g_if (et_test (ev_niL (ev_var rfl) (fo rfl) (.ce 1 rfl))) (fun hm => g_raise1 hX (ea1 (ev_var rfl)) Z_NoPost.xc.oex Z_NoPost.no ?_) (fun hm => g_next (g_jp ⟨_, rfl, rfl, fun _ => h1 (by decide), fun _ => ?_⟩))
      · rw [Bool.not_eq_true', decide_eq_false_iff_not] at hm
        rw [if_neg (fun z => z (h1 (by decide))), if_pos hm]
        exact ⟨rfl, rfl⟩
      · rw [Bool.not_eq_false', decide_eq_true_eq] at hm
        exact hm
    | i + 2, hw => simp at hw
  · subst e1 e2
    have h1 := h1 (show 0 < 2 by decide)
    have h2 := h2 (show 1 < 2 by decide)
    refine g_dput (j := 2) (ev_tup (ds := [.str st, .str en]) (ea2 (ev_var rfl) (ev_var rfl)) (show 2 ≤ 100000 by decide)) (fe rfl) (ev_var rfl) rfl (by rw [enD_len]; omega) (g_end hR ?_)
    rw [if_neg (fun z => z h1), if_neg (fun z => z h2)]
    refine ⟨rfl, ?_⟩
    have := enD_put (r := (s, st, en)) hm
    unfold NetC
    rw [← this]
    rfl
end
def ct_Net_start_of (K : PySem.W.Frag) : Ct := Ct2 fun s b ka out => ∃ ps es l, NetW K ka s ps es ∧ b = .val (.str l) ∧ (lnN es).Nodup ∧ ((∃ r ∈ es, r.1 = l ∧ out = Rt (.str r.2.1) ka) ∨ (¬ l ∈ lnN es ∧ out = Xt (He.ga K "NoLane") [("name", .str l)] ka))
section
variable {P : Program} {w : World} {K : PySem.W.Frag} {mg : Str → Option Value} {base : Heap}
theorem ok_Net_start_of (T : Tx K mg) (Z_NoLane : Xn P w K mg base (He.ga K "NoLane") "name") : Fn P w K mg base 4 (He.ma K (He.ga K "Net") "start_of") ["self", "lane"] (ct_Net_start_of K) := by
  obtain ⟨fd, F⟩ := T.d_Net_start_of
  refine fn_ok F sc_Net_start_of (fun _ _ _ _ _ _ us hl => match us, hl with | [_, _], _ => rfl) ct2_len (fun cdv A outer s H E hr => ⟨_, (pss_cons (ps_if (pt_cmp (pc_dnotin (hu1 hr) (pv 1) (pe_fld (pv 0) rfl)) (by with_unfolding_all rfl))
      (pss_one (ps_raise rfl (takes_of rfl rfl rfl rfl) (pmk_oex Z_NoLane.xc.oex Z_NoLane.all.1 Z_NoLane.all.2.1 Z_NoLane.all.2.2.1 (hr.mono (by decide)) Z_NoLane.all.2.2.2 .nil passes_no rfl T.g_NoLane.1 (pa_cons (pv 1) pa_nil))))
      pss_nil)
      (pss_one (ps_ret (pe_ix ix_seq (pe_dget (hu1 hr) (pe_fld (pv 0) rfl) (pv 1) fun _ _ => rfl) pe_int fun _ _ => rfl)))), fun ws ka out B F0 Q hC hR hX => ?_⟩)
  obtain ⟨s, b, rfl, ps, es, l, h, rfl, hn, ho⟩ := hC
  obtain ⟨x, h1, h2⟩ := h.ends T.cl_Net T.na_Net_ends_by_lane (te := tVar 0) (ro := [some s, some (.val (.str l))]) (ev_var rfl)
  refine q_when (et_B ((ev_dni (ev_var rfl) h1 h2).to (by rw [enD_in]))) (fun hb => ?_) (fun hb => ?_)
  · rw [Bool.not_eq_true', decide_eq_false_iff_not] at hb
    refine g_raise1 hX (ea1 (ev_var rfl)) Z_NoLane.xc.oex Z_NoLane.no ?_
    rcases ho with ⟨r, hr, e, _⟩ | ⟨_, rfl⟩
    · exact absurd (List.mem_map.mpr ⟨r, hr, e⟩) hb
    · exact ⟨rfl, rfl⟩
  · rw [Bool.not_eq_false', decide_eq_true_eq] at hb
    rcases ho with ⟨r, hr, rfl, rfl⟩ | ⟨z, _⟩
    · obtain ⟨i, hi⟩ := List.mem_iff_getElem?.mp hr
      exact g_ret hR (ev_ixV (ev_dgetV (d := lnD r) h1 (ev_var rfl) h2 (enD_get hn hi)) ev_int .vt (atI_nat (j := 0) rfl)) ⟨rfl, rfl⟩
    · exact absurd hb z
end
def ct_Net_end_of (K : PySem.W.Frag) : Ct := Ct2 fun s b ka out => ∃ ps es l, NetW K ka s ps es ∧ b = .val (.str l) ∧ (lnN es).Nodup ∧ ((∃ r ∈ es, r.1 = l ∧ out = Rt (.str r.2.2) ka) ∨ (¬ l ∈ lnN es ∧ out = Xt (He.ga K "NoLane") [("name", .str l)] ka))
section
variable {P : Program} {w : World} {K : PySem.W.Frag} {mg : Str → Option Value} {base : Heap}
theorem ok_Net_end_of (T : Tx K mg) (Z_NoLane : Xn P w K mg base (He.ga K "NoLane") "name") : Fn P w K mg base 4 (He.ma K (He.ga K "Net") "end_of") ["self", "lane"] (ct_Net_end_of K) := by
  obtain ⟨fd, F⟩ := T.d_Net_end_of
  refine fn_ok F sc_Net_end_of (fun _ _ _ _ _ _ us hl => match us, hl with | [_, _], _ => rfl) ct2_len (fun cdv A outer s H E hr => ⟨_, (pss_cons (ps_if (pt_cmp (pc_dnotin (hu1 hr) (pv 1) (pe_fld (pv 0) rfl)) (by with_unfolding_all rfl))
      (pss_one (ps_raise rfl (takes_of rfl rfl rfl rfl) (pmk_oex Z_NoLane.xc.oex Z_NoLane.all.1 Z_NoLane.all.2.1 Z_NoLane.all.2.2.1 (hr.mono (by decide)) Z_NoLane.all.2.2.2 .nil passes_no rfl T.g_NoLane.1 (pa_cons (pv 1) pa_nil))))
      pss_nil)
      (pss_one (ps_ret (pe_ix ix_seq (pe_dget (hu1 hr) (pe_fld (pv 0) rfl) (pv 1) fun _ _ => rfl) pe_int fun _ _ => rfl)))), fun ws ka out B F0 Q hC hR hX => ?_⟩)
  obtain ⟨s, b, rfl, ps, es, l, h, rfl, hn, ho⟩ := hC
  obtain ⟨x, h1, h2⟩ := h.ends T.cl_Net T.na_Net_ends_by_lane (te := tVar 0) (ro := [some s, some (.val (.str l))]) (ev_var rfl)
  refine q_when (et_B ((ev_dni (ev_var rfl) h1 h2).to (by rw [enD_in]))) (fun hb => ?_) (fun hb => ?_)
  · rw [Bool.not_eq_true', decide_eq_false_iff_not] at hb
    refine g_raise1 hX (ea1 (ev_var rfl)) Z_NoLane.xc.oex Z_NoLane.no ?_
    rcases ho with ⟨r, hr, e, _⟩ | ⟨_, rfl⟩
    · exact absurd (List.mem_map.mpr ⟨r, hr, e⟩) hb
    · exact ⟨rfl, rfl⟩
  · rw [Bool.not_eq_false', decide_eq_true_eq] at hb
    rcases ho with ⟨r, hr, rfl, rfl⟩ | ⟨z, _⟩
    · obtain ⟨i, hi⟩ := List.mem_iff_getElem?.mp hr
      exact g_ret hR (ev_ixV (ev_dgetV (d := lnD r) h1 (ev_var rfl) h2 (enD_get hn hi)) ev_int .vt (atI_nat (j := 1) rfl)) ⟨rfl, rfl⟩
    · exact absurd hb z
end
def ct_Net_copy (K : PySem.W.Frag) : Ct := Ct1 fun s ka out => ∃ ps es, s = .val (NetD K ps es) ∧ ps.length ≤ 50000 ∧ es.length ≤ 50000 ∧ (lnN es).Nodup ∧ ka = [] ∧ out = fun o' k => ∃ a o d, o' = .ret (.adr a) ∧ k = NetC K a o d ps es
section
variable {P : Program} {w : World} {K : PySem.W.Frag} {mg : Str → Option Value} {base : Heap}
theorem ok_Net_copy (T : Tx K mg) (F_Net___init : FnE P w K mg base 4 (He.ma K (He.ga K "Net") "__init__") ["self", "order", "ends_by_lane"] [.ref (He.dflAt ("Net", some "__init__") 0 K), .non] (ct_Net___init K)) : Fn P w K mg base 6 (He.ma K (He.ga K "Net") "copy") ["self"] (ct_Net_copy K) := by
  obtain ⟨fd, F⟩ := T.d_Net_copy
  refine fn_ok F sc_Net_copy (fun _ _ _ _ _ _ us hl => match us, hl with | [_], _ => rfl) ct1_len (fun cdv A outer s H E hr => ⟨_, (pss_one (ps_ret (pe_make T.mk_Net (F_Net___init.a.up (by decide)).ok hr rfl T.g_Net.1 (F_Net___init.a.up (by decide)).bn .nil (pass_own rfl rfl rfl rfl) (pa_cons (pe_fld (pv 0) rfl) (pa_cons (pe_fld (pv 0) rfl) pa_nil))))), fun ws ka out B F0 Q hC hR hX => ?_⟩)
  obtain ⟨s, rfl, ps, es, rfl, hl, hel, hn, rfl, rfl⟩ := hC
  refine g_retE (Q := fun w k => ∃ a o d, w = .val (.adr a) ∧ k = NetC K a o d ps es) hR (evr_make (wd := []) (k1 := []) (ea2 (ev_fld (ev_var rfl) .v T.cl_Net T.na_Net_order rfl) (ev_fld (ev_var rfl) .v T.cl_Net T.na_Net_ends_by_lane rfl)) dv_nil (fun a => ⟨_, ⟨_, _, _, rfl, a, false, false, ps, es, rfl, rfl, .vl, hl, hel, hn, .inr rfl, rfl⟩, fun o k ⟨o2, d, e1, e2⟩ => ⟨e1, a, o2, d, rfl, e2⟩⟩)) (fun w k ⟨a, o, d, e1, e2⟩ => ⟨.adr a, e1, a, o, d, rfl, e2⟩)
end
def ct_Net___contains (K : PySem.W.Frag) : Ct := Ct2 fun s b ka out => ∃ ps es l, s = .val (NetD K ps es) ∧ b = .val (.str l) ∧ ka = [] ∧ out = Rt (.bl (decide (l ∈ lnN es))) []
section
variable {P : Program} {w : World} {K : PySem.W.Frag} {mg : Str → Option Value} {base : Heap}
theorem ok_Net___contains (T : Tx K mg) : Fn P w K mg base 4 (He.ma K (He.ga K "Net") "__contains__") ["self", "lane"] (ct_Net___contains K) := by
  obtain ⟨fd, F⟩ := T.d_Net___contains
  refine fn_ok F sc_Net___contains (fun _ _ _ _ _ _ us hl => match us, hl with | [_, _], _ => rfl) ct2_len (fun cdv A outer s H E hr => ⟨_, (pss_one (ps_ret (pe_and (pe_callB call_isi rfl T.n_isinstance (by decide +kernel) (pa_cons (pv 1) (pa_cons (pe_bltn (v := .ty "str") rfl T.n_str (by decide +kernel) rfl) pa_nil))) (pe_one (pe_cmp (pc_din (hu1 hr) (pv 1) (pe_fld (pv 0) rfl)) (by with_unfolding_all rfl)))))), fun ws ka out B F0 Q hC hR hX => ?_⟩)
  obtain ⟨s, b, rfl, ps, es, l, rfl, rfl, rfl, rfl⟩ := hC
  exact g_ret hR (ev_andV1 (ev_isi (ev_var rfl) (tw_of rfl) T.kt_str_str) ((ev_din (ev_var rfl) (ev_fld (ev_var rfl) .v T.cl_Net T.na_Net_ends_by_lane rfl) .v).to (by rw [enD_in]))) ⟨rfl, rfl⟩
end
def ckOut (K : PySem.W.Frag) (ds : List D) (ka : Cells) : Oc := match ds, ds.find? (fun d => !isNmD d) with
  | [], _ => X0 (He.ga K "EmptyWalk") ka
  | _ :: _, none => Rt .non ka
  | _ :: _, some d => Xt (He.ga K "BadName") [("name", d)] ka
theorem ck_ok {K : PySem.W.Frag} {ds : List D} {ka : Cells} (h0 : ds ≠ []) (h : ∀ d ∈ ds, isNmD d = true) : ckOut K ds ka = Rt .non ka := by
  unfold ckOut
  rw [find_none (p := fun d => !isNmD d) fun e he => by rw [h e he]; rfl]
  cases ds with
  | nil => exact absurd rfl h0
  | cons d r => rfl
theorem ck_bad {K : PySem.W.Frag} {ds : List D} {d : D} {ka : Cells} (h : ds.find? (fun d => !isNmD d) = some d) : ckOut K ds ka = Xt (He.ga K "BadName") [("name", d)] ka := by
  unfold ckOut
  rw [h]
  cases ds with
  | nil => cases h
  | cons d r => rfl
def ct_check_lanes (K : PySem.W.Frag) : Ct := Ct1 fun a ka out => ∃ t ds b, Lk ka a t ds b ∧ SqF b ds ∧ (∀ d ∈ ds, nmOk d) ∧ out = ckOut K ds ka
section
variable {P : Program} {w : World} {K : PySem.W.Frag} {mg : Str → Option Value} {base : Heap}
theorem ok_check_lanes (T : Tx K mg) (F_is_name : Fn P w K mg base 4 (He.ga K "is_name") ["word"] (ct_is_name K)) (Z_BadName : Xn P w K mg base (He.ga K "BadName") "name") : Fn P w K mg base 6 (He.ga K "check_lanes") ["lanes"] (ct_check_lanes K) := by
  obtain ⟨fd, F⟩ := T.d_check_lanes
  refine fn_ok F sc_check_lanes (fun _ _ _ _ _ _ us hl => match us, hl with | [_], _ => rfl) ct1_len (fun cdv A outer s H E hr => ⟨_, (pss_cons (ps_if (pt_cmpR (op_eqP (by have := (hr).units; exact this)) (pe_callB call_lenU rfl T.n_len (by decide +kernel) (pa_cons (pv 0) pa_nil)) pe_int (nomark _))
      (pss_one (ps_raise rfl (takes_of rfl rfl rfl rfl) (pmk_zero PySem.F.excBase_ValueError T.x0_EmptyWalk.1 T.g_EmptyWalk.1 T.x0_EmptyWalk.2.1 (raises_own T.x0_EmptyWalk.2.2.1 T.x0_EmptyWalk.2.2.2) rfl)))
      pss_nil)
      (pss_one (ps_for (passes_of rfl) rfl (pi_seq (pv 0)) (pg_name (i := 1) sc_check_lanes.nd rfl (by first | exact Or.inl rfl | exact Or.inr rfl)) (pss_one (ps_if (pt_not (pt_val (pe_call (F_is_name.up (by decide)).ok hr rfl T.g_is_name.1 T.g_is_name.2 (F_is_name.up (by decide)).bn .nil (pass_own rfl rfl rfl rfl) (pa_cons (pv 1) pa_nil))))
      (pss_one (ps_raise rfl (takes_of rfl rfl rfl rfl) (pmk_oex Z_BadName.xc.oex Z_BadName.all.1 Z_BadName.all.2.1 Z_BadName.all.2.2.1 (hr.mono (by decide)) Z_BadName.all.2.2.2 .nil passes_no rfl T.g_BadName.1 (pa_cons (pv 1) pa_nil))))
      pss_nil))))), fun ws ka out B F0 Q hC hR hX => ?_⟩)
  obtain ⟨a, rfl, t, ds, b, l, hf, hd, rfl⟩ := hC
  cases ds with
  | nil => exact q_when ((et_test (ev_eqI (ev_len (ev_var rfl) l) ev_int)).to (b := true) rfl) (fun _ => g_raise0 hX ⟨rfl, rfl⟩) (fun z => by cases z)
  | cons d0 ds0 =>
    refine q_when ((et_test (ev_eqI (ev_len (ev_var rfl) l) ev_int)).to (b := false) ?_) (fun z => by cases z) (fun _ => ?_)
    · refine beq_eq_false_iff_ne.mpr fun z => ?_
      rw [List.length_cons] at z
      omega
    generalize hds : d0 :: ds0 = ds at *
    refine g_forn (ei_seq (ev_var rfl) l) (fun i ro2 ka2 => (∃ v, ro2 = [some a, v]) ∧ ka2 = ka ∧ ∀ d ∈ ds.take i, isNmD d = true) ⟨⟨none, rfl⟩, rfl, fun d h => by simp at h⟩ (fun i ro2 ka2 ⟨_, e, _⟩ => e ▸ l.stay) (fun i w2 ro2 ka2 ta' hw ⟨⟨v, e1⟩, e2, e3⟩ => ?_) (fun ro2 ka2 ta' ⟨⟨v, e1⟩, e2, e3⟩ _ => ?_)
    · subst e1 e2
      rw [List.getElem?_map] at hw
      cases hx : ds[i]? with
      | none => rw [hx] at hw; cases hw
      | some d =>
        rw [hx] at hw
        have hm : d ∈ ds := List.mem_of_getElem? hx
        have hw2 : part b d = w2 := by cases hw; rfl
        rw [part_of hf hm] at hw2
        subst hw2
        refine g_if (et_not (et_B (ev_callP (ea1 (ev_var rfl)) ⟨_, rfl, d, rfl, hd d hm, rfl, rfl⟩))) (fun hb => g_raise1 hX (ea1 (ev_var rfl)) Z_BadName.xc.oex Z_BadName.no ?_) (fun hb => g_next (g_jp ⟨⟨_, rfl⟩, rfl, fun e he => ?_⟩))
        · rw [ck_bad (find_first (p := fun d => !isNmD d) (fun e he => by rw [e3 e he]; rfl) hx hb)]
          exact ⟨rfl, rfl⟩
        · rw [take_succ_some hx] at he
          rcases List.mem_append.mp he with he | he
          · exact e3 e he
          · rw [List.mem_singleton.mp he]
            simpa using hb
    · subst e1 e2
      rw [List.length_map, List.take_length] at e3
      refine g_end hR ?_
      rw [ck_ok (by rw [← hds]; simp) e3]
      exact ⟨rfl, rfl⟩
end
/-- a round, its lanes -/
abbrev RD (K : PySem.W.Frag) (ds : List D) : D := .ins (He.ga K "Round") [("line", .tup ds)]
structure RdOk (xs : List Str) : Prop where
  ne : xs ≠ []
  len : xs.length ≤ 50000
  nm : ∀ s ∈ xs, isNm s = true
theorem RdOk.ok {xs : List Str} (h : RdOk xs) : stD xs ≠ [] ∧ (∀ d ∈ stD xs, nmOk d) ∧ ∀ d ∈ stD xs, isNmD d = true := by
  refine ⟨fun z => h.ne (List.map_eq_nil_iff.mp z), fun d hd => ?_, fun d hd => ?_⟩
  · obtain ⟨s, hs, rfl⟩ := List.mem_map.mp hd
    exact Nat.le_trans (isNm_len (h.nm s hs)) (by decide)
  · obtain ⟨s, hs, rfl⟩ := List.mem_map.mp hd
    exact h.nm s hs
def ct_Round___init (K : PySem.W.Frag) : Ct := Ct2 fun s a ka out => ∃ p k0 t xs b, s = .val (.adr p) ∧ ka = k0 ++ [(p, .ins (He.ga K "Round") [])] ∧ Lk k0 a t (stD xs) b ∧ (t = true → b = false) ∧ SqF b (stD xs) ∧ RdOk xs ∧ out = Rt .non (k0 ++ [(p, .ins (He.ga K "Round") [("line", .tup (stD xs))])])
/-- Round(..) of names -/
theorem ev_round {K : PySem.W.Frag} {ro : Ro} {ka k1 : Cells} {te : TE} {w : W} {t b : Bool} {xs : List Str} {E : XK} (h : EvD K te ro ka w k1) (l : Lk k1 w t (stD xs) b) (ht : t = true → b = false) (hf : SqF b (stD xs)) (hx : RdOk xs) :
    EvD K (tMake (He.ga K "Round") (spC K (ct_Round___init K)) [] E (tCons te tNil)) ro ka (.val (RD K (stD xs))) k1 :=
  (evn_make (ea1 h) fun a => ⟨_, ⟨_, _, rfl, a, k1, t, xs, b, rfl, rfl, l, ht, hf, hx, rfl⟩, fun _ _ z => z⟩).ins
section
variable {P : Program} {w : World} {K : PySem.W.Frag} {mg : Str → Option Value} {base : Heap}
theorem ok_Round___init (T : Tx K mg) (F_check_lanes : Fn P w K mg base 6 (He.ga K "check_lanes") ["lanes"] (ct_check_lanes K)) : Fn P w K mg base 8 (He.ma K (He.ga K "Round") "__init__") ["self", "lanes"] (ct_Round___init K) := by
  obtain ⟨fd, F⟩ := T.d_Round___init
  refine fn_ok F sc_Round___init (fun _ _ _ _ _ _ us hl => match us, hl with | [_, _], _ => rfl) ct2_len (fun cdv A outer s H E hr => ⟨_, (pss_cons (ps_expr (pe_call (F_check_lanes.up (by decide)).ok hr rfl T.g_check_lanes.1 T.g_check_lanes.2 (F_check_lanes.up (by decide)).bn .nil (pass_own rfl rfl rfl rfl) (pa_cons (pv 1) pa_nil)))
      (pss_one (ps_fld (pv 0) (pe_callTy call_tupU rfl T.n_tuple (by decide +kernel) (pa_cons (pv 1) pa_nil)) rfl))), fun ws ka out B F0 Q hC hR hX => ?_⟩)
  obtain ⟨s1, a, rfl, p, k0, t, xs, b, rfl, rfl, l, ht, hf, hx, rfl⟩ := hC
  obtain ⟨h1, h2, h3⟩ := hx.ok
  refine q_drop (ev_callA (k2 := k0 ++ [(p, .ins (He.ga K "Round") [])]) (d := .non) (ea1 (ev_var rfl)) ⟨_, rfl, t, _, b, l.app, hf, h2, (ck_ok h1 h3).symm⟩) ?_
  refine g_fld (ev_cb (ea1 (ev_var rfl)) (rc_tup l.app ht hf)) (ev_var rfl) (get_last k0 _) T.cl_Round T.na_Round_line (by decide) ?_
  rw [set_last]
  exact g_end hR ⟨rfl, rfl⟩
end
def ct_Round_lanes (K : PySem.W.Frag) : Ct := Ct1 fun s ka out => ∃ ds, s = .val (RD K ds) ∧ ka = [] ∧ out = Rt (.tup ds) []
section
variable {P : Program} {w : World} {K : PySem.W.Frag} {mg : Str → Option Value} {base : Heap}
theorem ok_Round_lanes (T : Tx K mg) : Fn P w K mg base 4 (pga K (He.ga K "Round") "lanes") ["self"] (ct_Round_lanes K) := by
  obtain ⟨fd, F⟩ := T.d_Round_lanes
  refine fn_ok F sc_Round_lanes (fun _ _ _ _ _ _ us hl => match us, hl with | [_], _ => rfl) ct1_len (fun cdv A outer s H E hr => ⟨_, (pss_one (ps_ret (pe_fld (pv 0) rfl))), fun ws ka out B F0 Q hC hR hX => ?_⟩)
  obtain ⟨s1, rfl, ds, rfl, rfl, rfl⟩ := hC
  exact g_ret hR (ev_fld (ev_var rfl) .v T.cl_Round T.na_Round_line lk1) ⟨rfl, rfl⟩
end
def ct_Round___len (K : PySem.W.Frag) : Ct := Ct1 fun s ka out => ∃ ds, s = .val (RD K ds) ∧ ka = [] ∧ out = Rt (.int ds.length) []
section
variable {P : Program} {w : World} {K : PySem.W.Frag} {mg : Str → Option Value} {base : Heap}
theorem ok_Round___len (T : Tx K mg) : Fn P w K mg base 4 (He.ma K (He.ga K "Round") "__len__") ["self"] (ct_Round___len K) := by
  obtain ⟨fd, F⟩ := T.d_Round___len
  refine fn_ok F sc_Round___len (fun _ _ _ _ _ _ us hl => match us, hl with | [_], _ => rfl) ct1_len (fun cdv A outer s H E hr => ⟨_, (pss_one (ps_ret (pe_callB call_lenU rfl T.n_len (by decide +kernel) (pa_cons (pe_fld (pv 0) rfl) pa_nil)))), fun ws ka out B F0 Q hC hR hX => ?_⟩)
  obtain ⟨s1, rfl, ds, rfl, rfl, rfl⟩ := hC
  exact g_ret hR (ev_len (ev_fld (ev_var rfl) .v T.cl_Round T.na_Round_line lk1) .vt) ⟨rfl, rfl⟩
end
def giOut (K : PySem.W.Frag) (ds : List D) : D → Oc
  | .int i => Rt (ds.getD (i % (ds.length : Int)).toNat .non) []
  | d => Xt (He.ga K "BadNumber") [("value", d)] []
theorem gi_bad {K : PySem.W.Frag} {ds : List D} {d : D} (h : isWh d = false) : giOut K ds d = Xt (He.ga K "BadNumber") [("value", d)] [] := by
  cases d <;> first | rfl | cases h
def ct_Round___getitem (K : PySem.W.Frag) : Ct := Ct2 fun s a ka out => ∃ ds d, s = .val (RD K ds) ∧ a = .val d ∧ tyD d ≠ none ∧ ds ≠ [] ∧ ka = [] ∧ out = giOut K ds d
theorem get_mod {ds : List D} (h : ds ≠ []) (i : Int) : atI ds (i % (ds.length : Int)) = some (ds.getD (i % (ds.length : Int)).toNat .non) := by
  have hp : 0 < ds.length := List.length_pos_iff.mpr h
  have h0 : 0 ≤ i % (ds.length : Int) := Int.emod_nonneg _ (by omega)
  have h1 : i % (ds.length : Int) < ds.length := Int.emod_lt_of_pos _ (by omega)
  refine atZ h0 ?_
  have hlt : (i % (ds.length : Int)).toNat < ds.length := by omega
  rw [List.getD_eq_getElem?_getD, List.getElem?_eq_getElem hlt]
  rfl
section
variable {P : Program} {w : World} {K : PySem.W.Frag} {mg : Str → Option Value} {base : Heap}
theorem ok_Round___getitem (T : Tx K mg) (F_is_whole : Fn P w K mg base 4 (He.ga K "is_whole") ["value"] (ct_is_whole K)) (Z_BadNumber : Xn P w K mg base (He.ga K "BadNumber") "value") : Fn P w K mg base 6 (He.ma K (He.ga K "Round") "__getitem__") ["self", "place"] (ct_Round___getitem K) := by
  obtain ⟨fd, F⟩ := T.d_Round___getitem
  refine fn_ok F sc_Round___getitem (fun _ _ _ _ _ _ us hl => match us, hl with | [_, _], _ => rfl) ct2_len (fun cdv A outer s H E hr => ⟨_, (pss_cons (ps_if (pt_not (pt_val (pe_call (F_is_whole.up (by decide)).ok hr rfl T.g_is_whole.1 T.g_is_whole.2 (F_is_whole.up (by decide)).bn .nil (pass_own rfl rfl rfl rfl) (pa_cons (pv 1) pa_nil))))
      (pss_one (ps_raise rfl (takes_of rfl rfl rfl rfl) (pmk_oex Z_BadNumber.xc.oex Z_BadNumber.all.1 Z_BadNumber.all.2.1 Z_BadNumber.all.2.2.1 (hr.mono (by decide)) Z_BadNumber.all.2.2.2 .nil passes_no rfl T.g_BadNumber.1 (pa_cons (pv 1) pa_nil))))
      pss_nil)
      (pss_one (ps_ret (pe_ix ix_seq (pe_fld (pv 0) rfl) (pe_op op_mod (pv 1) (pe_callB call_lenU rfl T.n_len (by decide +kernel) (pa_cons (pe_fld (pv 0) rfl) pa_nil))) fun _ _ => rfl)))), fun ws ka out B F0 Q hC hR hX => ?_⟩)
  obtain ⟨s1, a, rfl, ds, d, rfl, rfl, hd, hne, rfl, rfl⟩ := hC
  refine q_when (et_not (et_B (ev_callP (ea1 (ev_var rfl)) ⟨_, rfl, d, rfl, hd, rfl, rfl⟩))) (fun hb => g_raise1 hX (ea1 (ev_var rfl)) Z_BadNumber.xc.oex Z_BadNumber.no ?_) (fun hb => ?_)
  · rw [gi_bad (by simpa using hb)]
    exact ⟨rfl, rfl⟩
  · cases d with
    | int i =>
      have hp : 0 < ds.length := List.length_pos_iff.mpr hne
      exact g_ret hR (ev_ixV (ev_fld (ev_var rfl) .v T.cl_Round T.na_Round_line lk1) (ev_modI (ev_var rfl) (ev_len (ev_fld (ev_var rfl) .v T.cl_Round T.na_Round_line lk1) .vt) (by omega)) .vt (get_mod hne i)) ⟨rfl, rfl⟩
    | _ => cases hb
end
/-- does each lane of ls end where the next one starts -/
def fitB (es : List Ln) (ls : List Str) : Bool := (List.range ls.length).all fun i => decide (ls.getD i "" ∈ lnN es) && (decide (ls.getD ((i + 1) % ls.length) "" ∈ lnN es) && (enO es (ls.getD i "") == stO es (ls.getD ((i + 1) % ls.length) "")))
def ct_fits (K : PySem.W.Frag) : Ct := Ct2 fun a b ka out => ∃ ps es ls, a = .val (NetD K ps es) ∧ b = .val (RD K (stD ls)) ∧ ls ≠ [] ∧ ls.length ≤ 100000 ∧ (lnN es).Nodup ∧ ka = [] ∧ out = Rt (.bl (fitB es ls)) []
theorem all_take_f {p : Nat → Bool} {n i : Nat} (h : i < n) (hp : p i = false) : (List.range n).all p = false := by
  rw [← Bool.not_eq_true, List.all_eq_true]
  intro z
  rw [z i (List.mem_range.mpr h)] at hp
  cases hp
section
variable {P : Program} {w : World} {K : PySem.W.Frag} {mg : Str → Option Value} {base : Heap}
theorem ok_fits (T : Tx K mg) (F_Net_start_of : Fn P w K mg base 4 (He.ma K (He.ga K "Net") "start_of") ["self", "lane"] (ct_Net_start_of K)) (F_Net_end_of : Fn P w K mg base 4 (He.ma K (He.ga K "Net") "end_of") ["self", "lane"] (ct_Net_end_of K)) (F_Net___contains : Fn P w K mg base 4 (He.ma K (He.ga K "Net") "__contains__") ["self", "lane"] (ct_Net___contains K)) (F_Round___len : Fn P w K mg base 4 (He.ma K (He.ga K "Round") "__len__") ["self"] (ct_Round___len K)) (F_Round___getitem : Fn P w K mg base 6 (He.ma K (He.ga K "Round") "__getitem__") ["self", "place"] (ct_Round___getitem K)) : Fn P w K mg base 8 (He.ga K "fits") ["net", "ring"] (ct_fits K) := by
  obtain ⟨fd, F⟩ := T.d_fits
  refine fn_ok F sc_fits (fun _ _ _ _ _ _ us hl => match us, hl with | [_, _], _ => rfl) ct2_len (fun cdv A outer s H E hr => ⟨_, (pss_cons (ps_for (passes_of rfl) rfl (pi_range1 rfl T.n_range (pa_cons (pe_callB (len_ow T.sm_Round_len (F_Round___len.up (by decide)) hr (pass_own rfl rfl rfl rfl)) rfl T.n_len (by decide +kernel) (pa_cons (pv 1) pa_nil)) pa_nil)) (pg_name (i := 2) sc_fits.nd rfl (by first | exact Or.inl rfl | exact Or.inr rfl)) (pss_cons (ps_if (PW.pt (pw_or (pt_cmpR (ni_ow T.sm_Net_contains (F_Net___contains.up (by decide)) hr (pass_own rfl rfl rfl rfl)) (pe_owix T.sm_Round_getitem T.ff_Round_getitem (F_Round___getitem.up (by decide)) hr (pass_own rfl rfl rfl rfl) (pv 1) (pv 2)) (pv 0) (by with_unfolding_all rfl)) (pw_or1 (pt_cmpR (ni_ow T.sm_Net_contains (F_Net___contains.up (by decide)) hr (pass_own rfl rfl rfl rfl)) (pe_owix T.sm_Round_getitem T.ff_Round_getitem (F_Round___getitem.up (by decide)) hr (pass_own rfl rfl rfl rfl) (pv 1) (pe_op op_addU (pv 2) pe_int)) (pv 0) (by with_unfolding_all rfl)))))
      (pss_one (ps_ret pe_bl))
      pss_nil)
      (pss_one (ps_if (pt_cmpR (op_neP (by have := (hr).units; exact this)) (pe_meth (pv 0) T.cl_Net T.me_Net_end_of (F_Net_end_of.up (by decide)).ok hr (F_Net_end_of.up (by decide)).bn .nil (pass_own rfl rfl rfl rfl) (pa_cons (pe_owix T.sm_Round_getitem T.ff_Round_getitem (F_Round___getitem.up (by decide)) hr (pass_own rfl rfl rfl rfl) (pv 1) (pv 2)) pa_nil)) (pe_meth (pv 0) T.cl_Net T.me_Net_start_of (F_Net_start_of.up (by decide)).ok hr (F_Net_start_of.up (by decide)).bn .nil (pass_own rfl rfl rfl rfl) (pa_cons (pe_owix T.sm_Round_getitem T.ff_Round_getitem (F_Round___getitem.up (by decide)) hr (pass_own rfl rfl rfl rfl) (pv 1) (pe_op op_addU (pv 2) pe_int)) pa_nil)) (nomark _))
      (pss_one (ps_ret pe_bl))
      pss_nil))))
      (pss_one (ps_ret pe_bl))), fun ws ka out B F0 Q hC hR hX => ?_⟩)
  obtain ⟨a, b, rfl, ps, es, ls, rfl, rfl, hne, hl, hn, rfl, rfl⟩ := hC
  have hp : 0 < ls.length := List.length_pos_iff.mpr hne
  have hne2 : stD ls ≠ [] := fun z => hne (List.map_eq_nil_iff.mp z)
  have gi : ∀ {j : Nat} {te : TE} {i : Int} {ro : Ro} {E : XK}, i = (j : Int) → ro[1]? = some (some (.val (RD K (stD ls)))) → EvD K te ro [] (.val (.int i)) [] → EvD K (tOp (rOwn2 (He.ga K "Round") (spC K (ct_Round___getitem K)) E) (tVar 1) te) ro [] (.val (.str (ls.getD (j % ls.length) ""))) [] := fun {j te i ro E} hi h1 he => by
    subst hi
    have hlt : j % ls.length < ls.length := Nat.mod_lt _ hp
    refine (ev_op (ev_var h1) he (rv_own2 (k1 := []) (d := .str (ls.getD (j % ls.length) "")) [] .v ⟨_, _, rfl, stD ls, .int (j : Int), rfl, rfl, (fun z => by cases z), hne2, rfl, ?_⟩ (fun _ _ z => z)))
    show Rt _ [] = Rt ((stD ls).getD (((j : Int) % ((stD ls).length : Nat))).toNat .non) []
    have e1 : ((j : Int) % ((stD ls).length : Nat)).toNat = j % ls.length := by rw [stD_len, ← Int.natCast_emod]; rfl
    have e2 : (stD ls).getD (j % ls.length) .non = .str (ls.getD (j % ls.length) "") := by
      rw [List.getD_eq_getElem?_getD, stD_get (List.getElem?_eq_getElem hlt), List.getD_eq_getElem?_getD, List.getElem?_eq_getElem hlt]
      rfl
    rw [e1, e2]
  refine q_forn (ei_range1 (ea1 (ev_cb (ea1 (ev_var rfl)) (rc_own_len (k1 := []) (m := ls.length) [] .v ⟨_, rfl, stD ls, rfl, rfl, by rw [stD_len]; rfl⟩ (fun _ _ z => z) hl))) (by omega) (by omega)) (fun i ro ka => ∃ v, ro = [some (.val (NetD K ps es)), some (.val (RD K (stD ls))), v] ∧ ka = [] ∧ ∀ j, j < i → (decide (ls.getD j "" ∈ lnN es) && (decide (ls.getD ((j + 1) % ls.length) "" ∈ lnN es) && (enO es (ls.getD j "") == stO es (ls.getD ((j + 1) % ls.length) "")))) = true) ⟨_, rfl, rfl, fun j z => absurd z (Nat.not_lt_zero _)⟩ (fun i ro ka _ => trivial) (fun i w ro2 ka2 ta' hw ⟨v, e1, e2, hs⟩ => ?_) (fun ro2 ka2 ta' ⟨v, e1, e2, hs⟩ _ => ?_)
  · subst e1 e2
    rw [List.getElem?_map] at hw
    obtain ⟨i', hi', rfl⟩ := Option.map_eq_some_iff.mp hw
    obtain ⟨hi1, hi2⟩ := List.getElem?_eq_some_iff.mp hi'
    rw [List.getElem_range] at hi2
    subst hi2
    rw [List.length_range] at hi1
    have hi : i < ls.length := by omega
    have m0 : i % ls.length = i := Nat.mod_eq_of_lt hi
    have key : ∀ {p : Bool}, (decide (ls.getD i "" ∈ lnN es) && (decide (ls.getD ((i + 1) % ls.length) "" ∈ lnN es) && (enO es (ls.getD i "") == stO es (ls.getD ((i + 1) % ls.length) "")))) = false → fitB es ls = false := fun {p} z => all_take_f hi z
    have inO : ∀ {te : TE} {ro : Ro} {l : Str} {E : XK}, ro[0]? = some (some (.val (NetD K ps es))) → EvD K te ro [] (.val (.str l)) [] → EvD K (tOp (rOwnIn (He.ga K "Net") true (spC K (ct_Net___contains K)) E) te (tVar 0)) ro [] (.val (.bl (!decide (l ∈ lnN es)))) [] := fun {te ro l E} h0 he =>
      ev_niO he (ev_var h0) .v ⟨_, _, rfl, ps, es, l, rfl, rfl, rfl, rfl⟩
    refine q_when (et_or (et_test ((inO rfl (gi (j := i) rfl rfl (ev_var rfl))).to (by rw [m0]))) fun _ => et_test (inO rfl (gi (j := i + 1) (by push_cast; rfl) rfl (ev_addI (ev_var rfl) ev_int)))) (fun hb => ?_) (fun hb => ?_)
    · refine g_ret hR ev_bl ⟨?_, rfl⟩
      rw [key (p := true)]
      rw [Bool.or_eq_true, Bool.not_eq_true', Bool.not_eq_true'] at hb
      rcases hb with hb | hb <;> rw [hb] <;> simp
    · rw [Bool.or_eq_false_iff, Bool.not_eq_false', Bool.not_eq_false'] at hb
      obtain ⟨h1, h2⟩ := hb
      obtain ⟨r, m, e1⟩ := List.mem_map.mp (of_decide_eq_true h1)
      obtain ⟨r', m', e2⟩ := List.mem_map.mp (of_decide_eq_true h2)
      have q1 := enO_eq hn m
      have q2 := stO_eq hn m'
      refine g_if (et_test (ev_neS (ev_methP (d := .str r.2.2) (ev_var rfl) .v rfl (ea1 ((gi (j := i) rfl rfl (ev_var rfl)).to (by rw [m0]))) ⟨_, _, rfl, ps, es, ls.getD i "", ⟨.inl rfl⟩, rfl, hn, .inl ⟨r, m, e1, rfl⟩⟩) (ev_methP (d := .str r'.2.1) (ev_var rfl) .v rfl (ea1 (gi (j := i + 1) (by push_cast; rfl) rfl (ev_addI (ev_var rfl) ev_int))) ⟨_, _, rfl, ps, es, ls.getD ((i + 1) % ls.length) "", ⟨.inl rfl⟩, rfl, hn, .inl ⟨r', m', e2, rfl⟩⟩))) (fun hb => ?_) (fun hb => g_next (g_jp ⟨_, rfl, rfl, fun j hj => ?_⟩))
      · refine g_ret hR ev_bl ⟨?_, rfl⟩
        rw [key (p := true)]
        rw [h1, h2, ← e1, ← e2, q1, q2]
        rw [Bool.not_eq_true'] at hb
        rw [hb]
        rfl
      · by_cases q : j = i
        · subst q
          rw [h1, h2, ← e1, ← e2, q1, q2]
          rw [Bool.not_eq_false'] at hb
          rw [hb]
          rfl
        · exact hs j (by omega)
  · subst e1 e2
    rw [List.length_map, List.length_range] at hs
    refine g_ret hR ev_bl ⟨?_, rfl⟩
    have : fitB es ls = true := List.all_eq_true.mpr fun j hj => hs j (by have := List.mem_range.mp hj; omega)
    rw [this]
end
theorem ev_lenK {K : PySem.W.Frag} {ro : Ro} {ka k1 : Cells} {te : TE} {p : Addr} {ns : List Int} (h : EvD K te ro ka (.val (.adr p)) k1) (hk : ∀ H, SqL K H p (ns.map V.int)) : EvD K (tCB (rLenU K) (tCons te tNil)) ro ka (.val (.int ns.length)) k1 := fun B F0 ta sg H Q e q => h B F0 ta sg H _ e fun v H1 e1 => .inl ⟨p, ns.map V.int, by rw [e1.tm_adr List.mem_cons_self], .inl (hk H1), by
  rw [List.length_map]
  exact q _ _ (e1.pop.push_imm fun _ => rfl)⟩
theorem ev_ixK {K : PySem.W.Frag} {ro : Ro} {ka k1 k2 : Cells} {te tf : TE} {p : Addr} {ns : List Int} {i : Nat} {z : Int} (h : EvD K te ro ka (.val (.adr p)) k1) (h2 : EvD K tf ro k1 (.val (.int i)) k2) (hk : ∀ H, SqL K H p (ns.map V.int)) (hz : ns[i]? = some z) : EvD K (tOp (rIx K) te tf) ro ka (.val (.int z)) k2 := ev_op h h2 fun B F0 ro ta sg H u v Q e h1 h2 q =>
  .inl ⟨p, ns.map V.int, i, .int z, e.tm_adr h1, e.tm_int h2, hk H, atI_nat (by rw [List.getElem?_map, hz]; rfl), q _ _ (e.push_imm fun _ => rfl)⟩
def ct_law_cell (K : PySem.W.Frag) : Ct := Ct2 fun a b ka out => ∃ ns, ∃ k : Nat, Scr K a ns ∧ b = .val (.int k) ∧ ka = [] ∧ out = Rt (.int (ns.getD k 0)) []
section
variable {P : Program} {w : World} {K : PySem.W.Frag} {mg : Str → Option Value} {base : Heap}
theorem ok_law_cell (T : Tx K mg) : Fn P w K mg base 4 (He.ga K "_law_cell") ["_law_script", "_law_k"] (ct_law_cell K) := by
  obtain ⟨fd, F⟩ := T.d_law_cell
  refine fn_ok F sc_law_cell (fun _ _ _ _ _ _ us hl => match us, hl with | [_, _], _ => rfl) ct2_len (fun cdv A outer s H E hr => ⟨_, (pss_cons (ps_if (pt_cmpR op_lt (pv 1) (pe_callB call_lenU rfl T.n_len (by decide +kernel) (pa_cons (pv 0) pa_nil)) (nomark _))
      (pss_one (ps_ret (pe_ix ix_seq (pv 0) (pv 1) fun _ _ => rfl)))
      pss_nil)
      (pss_one (ps_ret pe_int))), fun ws ka out B F0 Q hC hR hX => ?_⟩)
  obtain ⟨a, b, rfl, ns, k, hs, rfl, rfl, rfl⟩ := hC
  have out0 : ¬ k < ns.length → ns.getD k 0 = 0 := fun h => by
    rw [List.getD_eq_getElem?_getD, List.getElem?_eq_none (by omega)]
    rfl
  have in0 : k < ns.length → ns[k]? = some (ns.getD k 0) := fun h => by
    rw [List.getD_eq_getElem?_getD, List.getElem?_eq_getElem h]
    rfl
  rcases hs with rfl | ⟨p, rfl, hk⟩
  · have hl : (inD ns).length = ns.length := List.length_map ..
    refine q_when (et_test (ev_lt (ev_var rfl) (ev_len (ev_var rfl) .vl))) (fun hb => g_ret hR (ev_ixV (d := .int (ns.getD k 0)) (ev_var rfl) (ev_var rfl) .vl (atI_nat ?_)) ⟨rfl, rfl⟩) (fun hb => g_ret hR ev_int ⟨?_, rfl⟩)
    · rw [decide_eq_true_eq, hl] at hb
      unfold inD
      rw [List.getElem?_map, in0 (by omega)]
      rfl
    · rw [decide_eq_false_iff_not, hl] at hb
      rw [out0 (by omega)]
  · refine q_when (et_test (ev_lt (ev_var rfl) (ev_lenK (ev_var rfl) hk))) (fun hb => g_ret hR (ev_ixK (ev_var rfl) (ev_var rfl) hk (in0 ?_)) ⟨rfl, rfl⟩) (fun hb => g_ret hR ev_int ⟨?_, rfl⟩)
    · rw [decide_eq_true_eq] at hb
      omega
    · rw [decide_eq_false_iff_not] at hb
      rw [out0 (by omega)]
end
def ct_law_pool (K : PySem.W.Frag) : Ct := Ct1 fun a ka out => ∃ z, a = .val (.int z) ∧ ka = [] ∧ out = Nt (.lst (plOf z).ds) []
section
variable {P : Program} {w : World} {K : PySem.W.Frag} {mg : Str → Option Value} {base : Heap}
theorem ok_law_pool (T : Tx K mg) : Fn P w K mg base 4 (He.ga K "_law_pool") ["_law_cell_here"] (ct_law_pool K) := by
  obtain ⟨fd, F⟩ := T.d_law_pool
  refine fn_ok F sc_law_pool (fun _ _ _ _ _ _ us hl => match us, hl with | [_], _ => rfl) ct1_len (fun cdv A outer s H E hr => ⟨_, (pss_cons (ps_set (i := 1) sc_law_pool.nd rfl (by first | exact Or.inl rfl | exact Or.inr rfl) (pe_op op_mulU pe_int (pv 0)))
      (pss_cons (ps_if (pt_cmpR op_lt (pv 0) pe_int (nomark _))
      (pss_one (ps_set (i := 1) sc_law_pool.nd rfl (by first | exact Or.inl rfl | exact Or.inr rfl) (pe_op op_sub (pe_op op_sub pe_int (pe_op op_mulU pe_int (pv 0))) pe_int)))
      pss_nil)
      (pss_cons (ps_if (pt_cmpR op_ge (pv 1) (pe_op op_pow pe_int pe_int) (nomark _))
      (pss_one (ps_ret (pe_lst (pa_cons (pv 1) (pa_cons (pe_op op_mod (pe_callTy call_intU rfl T.n_int (by decide +kernel) (pa_cons (pv 1) pa_nil)) pe_int) (pa_cons pe_int pa_nil))))))
      pss_nil)
      (pss_one (ps_ret (pe_lst (pa_cons pe_int (pa_cons (pe_op op_mod (pe_callTy call_intU rfl T.n_int (by decide +kernel) (pa_cons (pv 1) pa_nil)) pe_int) (pa_cons pe_int pa_nil))))))))), fun ws ka out B F0 Q hC hR hX => ?_⟩)
  obtain ⟨a, rfl, z, rfl, rfl, rfl⟩ := hC
  refine q_asg (ev_mulL ev_int (ev_var rfl)) ?_
  refine q_whenI (fun ro ka => ro = [some (.val (.int z)), some (.val (.int (fldZ z)))] ∧ ka = []) (et_test (ev_lt (ev_var rfl) ev_int)) (fun hb nx k => g_asg (ev_subI (ev_subI ev_int (ev_mulL ev_int (ev_var rfl))) ev_int) (k _ _ ⟨?_, rfl⟩)) (fun hb => ⟨?_, rfl⟩) ?_
  · rw [decide_eq_true_eq] at hb
    unfold fldZ
    rw [if_pos hb]
    rfl
  · rw [decide_eq_false_iff_not] at hb
    unfold fldZ
    rw [if_neg hb]
    rfl
  · rintro ro2 ka2 ⟨rfl, rfl⟩
    refine q_when (et_test (ev_ge (ev_var rfl) (ev_powI ev_int ev_int ⟨by decide, by decide, by decide⟩))) (fun hb => g_retC hR (evn_lst (ds := (plOf z).ds) (ea3 (ev_var rfl) (ev_modI (ev_int1 (ev_var rfl)) ev_int (by decide)) ev_int |>.to ?_) (show 3 ≤ 100000 by decide)) (fun a => ⟨a, rfl, rfl⟩)) (fun hb => g_retC hR (evn_lst (ds := (plOf z).ds) (ea3 ev_int (ev_modI (ev_int1 (ev_var rfl)) ev_int (by decide)) ev_int |>.to ?_) (show 3 ≤ 100000 by decide)) (fun a => ⟨a, rfl, rfl⟩))
    · rw [decide_eq_true_eq] at hb
      have hb : fldZ z ≥ 10 ^ 18 := hb
      unfold plOf
      rw [if_pos hb]
      rfl
    · rw [decide_eq_false_iff_not] at hb
      have hb : ¬ fldZ z ≥ 10 ^ 18 := hb
      unfold plOf
      rw [if_neg hb]
      rfl
end
def ct_law_take (K : PySem.W.Frag) : Ct := Ct2 fun s b ka out => ∃ a p m, s = .val (.adr a) ∧ b = .val (.int m) ∧ ka = [(a, .lst (Pl.ds p))] ∧ p.Ok 1000000 ∧ 0 < m ∧ m ≤ 100000000 ∧ out = Rt (.int (tk p m).1) [(a, .lst (tk p m).2.ds)]
/-- a draw from the pool that is the first cell -/
theorem ev_take {K : PySem.W.Frag} {ro : Ro} {ka kr : Cells} {te tf : TE} {a : Addr} {p : Pl} {m : Int} {E : XK} {k1 : Cells} (h : EvD K te ro ka (.val (.adr a)) k1) (h2 : EvD K tf ro k1 (.val (.int m)) ((a, .lst p.ds) :: kr)) (hp : p.Ok 1000000) (h0 : 0 < m) (h1 : m ≤ 100000000) :
    EvD K (tCall (spC K (ct_law_take K)) [] E (tCons te (tCons tf tNil))) ro ka (.val (.int (tk p m).1)) ((a, .lst (tk p m).2.ds) :: kr) := ev_call1 (ea2 h h2) ⟨_, _, rfl, a, p, m, rfl, rfl, rfl, hp, h0, h1, rfl⟩
/-- a thing drawn out of texts, the pool behind it -/
def drawS (p : Pl) (ss : List Str) : Str := ss.getD (tk p ((stD ss).length : Nat)).1.toNat ""
def drawP (p : Pl) (ss : List Str) : Pl := (tk p ((stD ss).length : Nat)).2
theorem draw_lt {ss : List Str} (h : ss ≠ []) (p : Pl) : (0 : Int) < ((stD ss).length : Nat) ∧ 0 ≤ (tk p ((stD ss).length : Nat)).1 ∧ (tk p ((stD ss).length : Nat)).1.toNat < ss.length := by
  have hp := List.length_pos_iff.mpr h
  have hL : (0 : Int) < ((stD ss).length : Nat) := by rw [stD_len]; omega
  have t1 := tk_lt p hL
  refine ⟨hL, t1.1, ?_⟩
  have h1 := t1.1
  have h2 := t1.2
  rw [stD_len] at h1 h2 ⊢
  omega
theorem draw_eq {ss : List Str} (h : ss ≠ []) (p : Pl) : ss[(tk p ((stD ss).length : Nat)).1.toNat]? = some (drawS p ss) := by
  unfold drawS
  rw [List.getD_eq_getElem?_getD, List.getElem?_eq_getElem (draw_lt h p).2.2]
  rfl
theorem drawS_mem {ss : List Str} (h : ss ≠ []) (p : Pl) : drawS p ss ∈ ss := List.mem_of_getElem? (draw_eq h p)
theorem drawP_ok {ss : List Str} {p : Pl} {n : Int} (hp : p.Ok n) (h : ss ≠ []) : (drawP p ss).Ok (n + 1) := tk_ok hp (draw_lt h p).1
theorem ev_draw {K : PySem.W.Frag} {ro : Ro} {ka kr k0 k1 : Cells} {te tp tl : TE} {a : Addr} {p : Pl} {ss : List Str} {E : XK} (h1 : EvD K te ro ka (.val (.lst (stD ss))) k0) (h2 : EvD K tp ro k0 (.val (.adr a)) k1) (h3 : EvD K tl ro k1 (.val (.lst (stD ss))) ((a, .lst p.ds) :: kr)) (hp : p.Ok 1000000) (h : ss ≠ []) (hl : ss.length ≤ 100000) :
    EvD K (tOp (rIx K) te (tCall (spC K (ct_law_take K)) [] E (tCons tp (tCons (tCB (rLenU K) (tCons tl tNil)) tNil)))) ro ka (.val (.str (drawS p ss))) ((a, .lst (drawP p ss).ds) :: kr) :=
  ev_ixV h1 (ev_take h2 (ev_len h3 .vl) hp (draw_lt h p).1 (by rw [stD_len]; omega)) .vl (atZ (draw_lt h p).2.1 (stD_get (draw_eq h p)))
section
variable {P : Program} {w : World} {K : PySem.W.Frag} {mg : Str → Option Value} {base : Heap}
theorem ok_law_take (T : Tx K mg) : Fn P w K mg base 4 (He.ga K "_law_take") ["_law_pool_here", "_law_many_here"] (ct_law_take K) := by
  obtain ⟨fd, F⟩ := T.d_law_take
  refine fn_ok F sc_law_take (fun _ _ _ _ _ _ us hl => match us, hl with | [_, _], _ => rfl) ct2_len (fun cdv A outer s H E hr => ⟨_, (pss_cons (ps_if (pt_cmpR op_gt (pe_ix ix_seq (pv 0) pe_int fun _ _ => rfl) pe_int (nomark _))
      (pss_cons (ps_set (i := 2) sc_law_take.nd rfl (by first | exact Or.inl rfl | exact Or.inr rfl) (pe_op op_mod (pe_callTy call_intU rfl T.n_int (by decide +kernel) (pa_cons (pe_ix ix_seq (pv 0) pe_int fun _ _ => rfl) pa_nil)) (pv 1)))
      (pss_cons (ps_asg (pe_op op_fdiv (pe_ix ix_seq (pv 0) pe_int fun _ _ => rfl) (pv 1)) (pg_sub (pv 0) pe_int set_list))
      (pss_one (ps_ret (pv 2)))))
      pss_nil)
      (pss_cons (ps_asg (pe_op op_addU (pe_ix ix_seq (pv 0) pe_int fun _ _ => rfl) pe_int) (pg_sub (pv 0) pe_int set_list))
      (pss_cons (ps_set (i := 3) sc_law_take.nd rfl (by first | exact Or.inl rfl | exact Or.inr rfl) (pe_op op_mod (pe_callTy call_intU rfl T.n_int (by decide +kernel) (pa_cons (pe_op op_pow (pe_op op_addU (pe_op op_addU (pe_ix ix_seq (pv 0) pe_int fun _ _ => rfl) (pe_op op_mulU pe_int (pe_ix ix_seq (pv 0) pe_int fun _ _ => rfl))) pe_int) pe_int) pa_nil)) pe_int))
      (pss_one (ps_ret (pe_op op_mod (pe_op op_mod (pe_callTy call_intU rfl T.n_int (by decide +kernel) (pa_cons (pe_op op_mulU (pe_op op_addU (pv 3) (pe_ix ix_seq (pv 0) pe_int fun _ _ => rfl)) pe_int) pa_nil)) pe_int) (pv 1))))))), fun ws ka out B F0 Q hC hR hX => ?_⟩)
  obtain ⟨s1, b, rfl, a, p, m, rfl, rfl, rfl, hp, h0, h1, rfl⟩ := hC
  obtain ⟨p1, p2, p3, p4, p5⟩ := hp
  have i2 : atI (Pl.ds p) 2 = some (.int p.c) := atI_nat (j := 2) rfl
  have i1 : atI (Pl.ds p) 1 = some (.int p.b) := atI_nat (j := 1) rfl
  refine q_when (et_test (ev_gt (ev_ixV (ev_var rfl) ev_int (.ce 0 rfl) at0) ev_int)) (fun hb => ?_) (fun hb => ?_)
  · rw [decide_eq_true_eq] at hb
    refine q_asg (ev_modI (ev_int1 (ev_ixV (ev_var rfl) ev_int (.ce 0 rfl) at0)) (ev_var rfl) h0) ?_
    refine q_seti (j := 0) (ix := 0) (ev_divI (ev_ixV (ev_var rfl) ev_int (.ce 0 rfl) at0) (ev_var rfl) ⟨h0, by omega⟩) (ev_var rfl) ev_int rfl rfl ?_
    refine g_ret hR (ev_var rfl) ?_
    unfold tk
    rw [if_pos hb]
    exact ⟨rfl, rfl⟩
  · rw [decide_eq_false_iff_not] at hb
    refine q_seti (j := 0) (ix := 2) (ev_addI (ev_ixV (ev_var rfl) ev_int (.ce 0 rfl) i2) ev_int) (ev_var rfl) ev_int rfl rfl ?_
    refine q_asg (ev_modI (ev_int1 (ev_powI (i := p.b + 7919 * (p.c + 1) + 104729) (ev_addI (ev_addI (ev_ixV (ev_var rfl) ev_int (.ce 0 rfl) (atI_nat (j := 1) rfl)) (ev_mulL ev_int (ev_ixV (ev_var rfl) ev_int (.ce 0 rfl) (atI_nat (j := 2) rfl)))) ev_int) ev_int ⟨by decide, by decide, ?_⟩)) ev_int (by decide)) ?_
    · omega
    refine g_ret hR (ev_modI (ev_modI (ev_int1 (ev_mulR (ev_addI (ev_var rfl) (ev_ixV (ev_var rfl) ev_int (.ce 0 rfl) (atI_nat (j := 2) rfl))) ev_int)) ev_int (by decide)) (ev_var rfl) h0) ?_
    unfold tk
    rw [if_neg hb]
    exact ⟨rfl, rfl⟩
end
structure WdOk (l : List Nat) (k : Nat) : Prop where
  hd : ∃ c, l.head? = some c ∧ c ∈ letL
  sg : ∀ x ∈ l, x ∈ letL ++ digL
  len : l.length = k
theorem head_take {l : List Nat} {n : Nat} (h : 0 < n) : (l.take n).head? = l.head? := by
  cases l with
  | nil => simp
  | cons c r =>
    cases n with
    | zero => omega
    | succ n => rfl
theorem head_app {l m : List Nat} {c : Nat} (h : l.head? = some c) : (l ++ m).head? = some c := by
  cases l with
  | nil => cases h
  | cons d r => exact h
theorem nm_mid {l st : List Nat} {c p : Nat} (hl : WdOk l 8) (r : Nat) (hr : r < 8) (hst : st = l.take r) (hp : p ≤ st.length) (h0 : p = 0 → c ∈ letL) (hc : c ∈ letL ++ digL) : isNm (tx (st.take p ++ [c] ++ st.drop p)) = true := by
  subst hst
  refine nm_of ?_ (fun x hx => ?_) ?_
  · by_cases hp0 : p = 0
    · subst hp0
      exact ⟨c, by simp, h0 rfl⟩
    · obtain ⟨d, h1, h2⟩ := hl.hd
      rw [List.length_take] at hp
      refine ⟨d, head_app (head_app ?_), h2⟩
      rw [head_take (by omega), head_take (by omega)]
      exact h1
  · rcases List.mem_append.mp hx with hx | hx
    · rcases List.mem_append.mp hx with hx | hx
      · exact hl.sg x (List.mem_of_mem_take (List.mem_of_mem_take hx))
      · rw [List.mem_singleton.mp hx]; exact hc
    · exact hl.sg x (List.mem_of_mem_take (List.mem_of_mem_drop hx))
  · rw [List.length_append, List.length_append, List.length_take, List.length_drop, List.length_take, hl.len]
    simp
    omega
theorem key_snoc {β : Type} {key : Str → β} {f : Nat → β} {ss : List Str} {x : Str} (h : ∀ j s, ss[j]? = some s → key s = f j) (hx : key x = f ss.length) : ∀ j s, (ss ++ [x])[j]? = some s → key s = f j := fun j s e => by
  rcases Nat.lt_trichotomy j ss.length with q | q | q
  · rw [List.getElem?_append_left q] at e
    exact h j s e
  · subst q
    rw [List.getElem?_append_right (Nat.le_refl _), Nat.sub_self] at e
    cases e
    exact hx
  · rw [List.getElem?_append_right (by omega)] at e
    have := (List.getElem?_eq_some_iff.mp e).1
    rw [List.length_singleton] at this
    omega
theorem key_nd {β : Type} {key : Str → β} {f : Nat → β} {ss : List Str} (h : ∀ j s, ss[j]? = some s → key s = f j) (inj : ∀ i j, i < j → j < ss.length → f i ≠ f j) : ss.Nodup := by
  refine List.pairwise_iff_getElem.mpr fun i j hi hj hij e => inj i j hij hj ?_
  rw [← h i _ (List.getElem?_eq_getElem hi), ← h j _ (List.getElem?_eq_getElem hj), e]
theorem at_get {β : Type} {xs : List β} {i : Int} {x : β} (h0 : 0 ≤ i) (h : atI xs i = some x) : xs[i.toNat]? = some x := by
  unfold atI ixN at h
  rw [if_pos h0] at h
  by_cases q : i < xs.length
  · rw [if_pos q] at h
    exact h
  · rw [if_neg q] at h
    cases h
theorem let_nd : letL.Nodup := by decide
theorem sig_nd : (letL ++ digL).Nodup := by decide
theorem nd_inj {xs : List Nat} (h : xs.Nodup) {i j : Nat} (hi : i < xs.length) (hij : i ≠ j) : xs[i]? ≠ xs[j]? := fun e => by
  rw [List.getElem?_eq_getElem hi] at e
  obtain ⟨hj, e2⟩ := List.getElem?_eq_some_iff.mp e.symm
  exact hij ((List.getElem_inj h).mp e2).symm
def ct_law_names (K : PySem.W.Frag) : Ct := Ct2 fun s b ka out => ∃ a p n m, s = .val (.adr a) ∧ b = .val (.int m) ∧ ka = [(a, .lst (Pl.ds p))] ∧ p.Ok n ∧ 0 ≤ n ∧ n ≤ 900000 ∧ 0 ≤ m ∧ m ≤ 8 ∧
  out = fun o k => ∃ ss p', o = .ret (.lst (stD ss)) ∧ k = [(a, .lst (Pl.ds p'))] ∧ p'.Ok (n + 30) ∧ ss.length = m.toNat ∧ (∀ s ∈ ss, isNm s = true) ∧ ss.Nodup
section
variable {P : Program} {w : World} {K : PySem.W.Frag} {mg : Str → Option Value} {base : Heap}
theorem ok_law_names (T : Tx K mg) (F_law_take : Fn P w K mg base 4 (He.ga K "_law_take") ["_law_pool_here", "_law_many_here"] (ct_law_take K)) : Fn P w K mg base 6 (He.ga K "_law_names") ["_law_pool_here", "_law_many_here"] (ct_law_names K) := by
  obtain ⟨fd, F⟩ := T.d_law_names
  refine fn_ok F sc_law_names (fun _ _ _ _ _ _ us hl => match us, hl with | [_, _], _ => rfl) ct2_len (fun cdv A outer s H E hr => ⟨_, (pss_cons (ps_set (i := 2) sc_law_names.nd rfl (by first | exact Or.inl rfl | exact Or.inr rfl) pe_str)
      (pss_cons (ps_set (i := 3) sc_law_names.nd rfl (by first | exact Or.inl rfl | exact Or.inr rfl) (pe_op op_addU (pv 2) pe_str))
      (pss_cons (ps_set (i := 4) sc_law_names.nd rfl (by first | exact Or.inl rfl | exact Or.inr rfl) (pe_ix ix_seq (pv 2) (pe_call (F_law_take.up (by decide)).ok hr rfl T.g_law_take.1 T.g_law_take.2 (F_law_take.up (by decide)).bn .nil (pass_own rfl rfl rfl rfl) (pa_cons (pv 0) (pa_cons pe_int pa_nil))) fun _ _ => rfl))
      (pss_cons (ps_for (passes_of rfl) rfl (pi_range1 rfl T.n_range (pa_cons pe_int pa_nil)) (pg_name (i := 5) sc_law_names.nd rfl (by first | exact Or.inl rfl | exact Or.inr rfl)) (pss_one (ps_set (i := 4) sc_law_names.nd rfl (by first | exact Or.inl rfl | exact Or.inr rfl) (pe_op op_addU (pv 4) (pe_ix ix_seq (pv 3) (pe_call (F_law_take.up (by decide)).ok hr rfl T.g_law_take.1 T.g_law_take.2 (F_law_take.up (by decide)).bn .nil (pass_own rfl rfl rfl rfl) (pa_cons (pv 0) (pa_cons pe_int pa_nil))) fun _ _ => rfl)))))
      (pss_cons (ps_set (i := 6) sc_law_names.nd rfl (by first | exact Or.inl rfl | exact Or.inr rfl) (pe_call (F_law_take.up (by decide)).ok hr rfl T.g_law_take.1 T.g_law_take.2 (F_law_take.up (by decide)).bn .nil (pass_own rfl rfl rfl rfl) (pa_cons (pv 0) (pa_cons pe_int pa_nil))))
      (pss_cons (ps_set (i := 7) sc_law_names.nd rfl (by first | exact Or.inl rfl | exact Or.inr rfl) (pe_call (F_law_take.up (by decide)).ok hr rfl T.g_law_take.1 T.g_law_take.2 (F_law_take.up (by decide)).bn .nil (pass_own rfl rfl rfl rfl) (pa_cons (pv 0) (pa_cons pe_int pa_nil))))
      (pss_cons (ps_if (pt_cmpR (op_eqP (by have := (hr).units; exact this)) (pv 6) pe_int (nomark _))
      (pss_one (ps_ret (pe_lc (te := (tSl (rSlU K) (tVar 4) tNoPart (tPart (tOp (rAddU K) (tVar 5) (tC (.int 1)))))) (tt := tYes) (own := [("_law_k", 5)]) rfl sc_law_names.nd (pi_range1 rfl T.n_range (pa_cons (pv 1) pa_nil)) (blk_ok ["_law_pool_here", "_law_many_here", "_law_letters", "_law_signs", "_law_word", "_law_k", "_law_kind", "_law_start", "_law_stem", "_law_place", "_law_told", "_law_names_here", "_law_sign"] (defScope s_law_names) rfl rfl (by decide +kernel)) (fun _ _ _ _ _ => (pg_name (i := 5) sc_law_names.nd rfl (by first | exact Or.inl rfl | exact Or.inr rfl))) (fun _ _ _ _ _ => pts_nil) (fun _ _ _ _ _ => (pe_slice sl_U (pv 4) po_none (po_some (pe_op op_addU (pv 5) pe_int)))))))
      pss_nil)
      (pss_cons (ps_if (pt_cmpR (op_eqP (by have := (hr).units; exact this)) (pv 6) pe_int (nomark _))
      (pss_one (ps_ret (pe_lc (te := (tOp (rAddU K) (tOp (rIx K) (tVar 2) (tOp rModI (tOp (rAddU K) (tVar 7) (tOp rMulU (tC (.int 3)) (tVar 5))) (tC (.int 26)))) (tSl (rSlU K) (tVar 4) tNoPart (tPart (tCall (spC K (ct_law_take K)) [] (fun _ _ _ => False) (tCons (tVar 0) (tCons (tC (.int 8)) tNil))))))) (tt := tYes) (own := [("_law_k", 5)]) rfl sc_law_names.nd (pi_range1 rfl T.n_range (pa_cons (pv 1) pa_nil)) (blk_ok ["_law_pool_here", "_law_many_here", "_law_letters", "_law_signs", "_law_word", "_law_k", "_law_kind", "_law_start", "_law_stem", "_law_place", "_law_told", "_law_names_here", "_law_sign"] (defScope s_law_names) rfl rfl (by decide +kernel)) (fun _ _ _ _ _ => (pg_name (i := 5) sc_law_names.nd rfl (by first | exact Or.inl rfl | exact Or.inr rfl))) (fun _ _ _ _ _ => pts_nil) (fun _ _ _ _ _ => (pe_op op_addU (pe_ix ix_seq (pv 2) (pe_op op_mod (pe_op op_addU (pv 7) (pe_op op_mulU pe_int (pv 5))) pe_int) fun _ _ => rfl) (pe_slice sl_U (pv 4) po_none (po_some (pe_call (F_law_take.up (by decide)).ok hr rfl T.g_law_take.1 T.g_law_take.2 (F_law_take.up (by decide)).bn .nil passes_no (pa_cons (pv 0) (pa_cons pe_int pa_nil))))))))))
      pss_nil)
      (pss_cons (ps_set (i := 8) sc_law_names.nd rfl (by first | exact Or.inl rfl | exact Or.inr rfl) (pe_slice sl_U (pv 4) po_none (po_some (pe_call (F_law_take.up (by decide)).ok hr rfl T.g_law_take.1 T.g_law_take.2 (F_law_take.up (by decide)).bn .nil (pass_own rfl rfl rfl rfl) (pa_cons (pv 0) (pa_cons pe_int pa_nil))))))
      (pss_cons (ps_set (i := 9) sc_law_names.nd rfl (by first | exact Or.inl rfl | exact Or.inr rfl) (pe_call (F_law_take.up (by decide)).ok hr rfl T.g_law_take.1 T.g_law_take.2 (F_law_take.up (by decide)).bn .nil (pass_own rfl rfl rfl rfl) (pa_cons (pv 0) (pa_cons (pe_op op_addU (pe_callB call_lenU rfl T.n_len (by decide +kernel) (pa_cons (pv 8) pa_nil)) pe_int) pa_nil))))
      (pss_cons (ps_set (i := 10) sc_law_names.nd rfl (by first | exact Or.inl rfl | exact Or.inr rfl) (pe_ifExp (pt_cmpR (op_eqP (by have := (hr).units; exact this)) (pv 9) pe_int (nomark _)) (pv 2) (pv 3)))
      (pss_cons (ps_set (i := 11) sc_law_names.nd rfl (by first | exact Or.inl rfl | exact Or.inr rfl) (pe_lst pa_nil))
      (pss_cons (ps_for (passes_of rfl) rfl (pi_range1 rfl T.n_range (pa_cons (pv 1) pa_nil)) (pg_name (i := 5) sc_law_names.nd rfl (by first | exact Or.inl rfl | exact Or.inr rfl)) (pss_cons (ps_set (i := 12) sc_law_names.nd rfl (by first | exact Or.inl rfl | exact Or.inr rfl) (pe_ix ix_seq (pv 10) (pe_op op_mod (pe_op op_addU (pv 7) (pe_op op_mulU pe_int (pv 5))) (pe_callB call_lenU rfl T.n_len (by decide +kernel) (pa_cons (pv 10) pa_nil))) fun _ _ => rfl))
      (pss_one (ps_expr (pe_bm PySem.F.plainAttrs_list PySem.F.slot_list_append PySem.F.type_list_append mt_append (pv 11) (pa_cons (pe_op op_addU (pe_op op_addU (pe_slice sl_U (pv 8) po_none (po_some (pv 9))) (pv 12)) (pe_slice sl_U (pv 8) (po_some (pv 9)) po_none)) pa_nil))))))
      (pss_one (ps_ret (pv 11)))))))))))))))), fun ws ka out B F0 Q hC hR hX => ?_⟩)
  obtain ⟨s1, b1, rfl, a, p, n, m, rfl, rfl, rfl, hp, hn0, hn, hm0, hm, rfl⟩ := hC
  refine q_asg (ev_str.to (congrArg (fun z => W.val (.str z)) letters_tx)) ?_
  refine q_asg (ev_addT (ev_var rfl) (ev_str.to (congrArg (fun z => W.val (.str z)) digits_tx)) (by decide)) ?_
  have t0 := tk_lt p (m := 26) (by decide)
  obtain ⟨c0, hc0, hm1⟩ := sgn_at (l := letL) t0.1 (by rw [let_len]; exact t0.2)
  have hp1 : (tk p 26).2.Ok (n + 1) := tk_ok hp (by decide)
  refine q_asg (ev_ixT (ev_var rfl) (ev_take (kr := []) (ev_var rfl) ev_int (hp.up (by omega)) (by decide) (by decide)) (by decide) hc0) ?_
  refine q_forn (ei_range1 (ea1 ev_int) (by decide) (by decide)) (fun i ro ka => ∃ l p' v, ro = [some (.val (.adr a)), some (.val (.int m)), some (.val (.str (tx letL))), some (.val (.str (tx (letL ++ digL)))), some (.val (.str (tx l))), v, none, none, none, none, none, none, none] ∧ ka = [(a, .lst (Pl.ds p'))] ∧ p'.Ok (n + 1 + i) ∧ WdOk l (i + 1))
    ⟨[c0], _, none, rfl, rfl, hp1.up (by omega), ⟨c0, rfl, hm1⟩, fun x hx => by rw [List.mem_singleton.mp hx]; exact List.mem_append_left _ hm1, rfl⟩ (fun i ro ka _ => trivial) (fun i w ro2 ka2 ta' hw ⟨l, p', v, e1, e2, hp', hl⟩ => ?_) (fun ro2 ka2 ta' ⟨l, p1, v, e1, e2, hp1, hl⟩ _ => ?_)
  · subst e1 e2
    have hi : i < 7 := by
      have := (List.getElem?_eq_some_iff.mp hw).1
      rwa [List.length_map, List.length_range] at this
    have t1 := tk_lt p' (m := 36) (by decide)
    obtain ⟨c, hc, hm2⟩ := sgn_at (l := letL ++ digL) t1.1 (by rw [sig_len]; exact t1.2)
    refine g_asg (ev_addT (ev_var rfl) (ev_ixT (ev_var rfl) (ev_take (kr := []) (ev_var rfl) ev_int (hp'.up (by omega)) (by decide) (by decide)) (by decide) hc) (by rw [hl.len]; simp; omega)) (g_jp ⟨l ++ [c], _, _, rfl, rfl, (tk_ok hp' (by decide)).up (by push_cast; omega), ?_, fun x hx => ?_, by rw [List.length_append, hl.len]; rfl⟩)
    · obtain ⟨d, h1, h2⟩ := hl.hd
      exact ⟨d, head_app h1, h2⟩
    · rcases List.mem_append.mp hx with hx | hx
      · exact hl.sg x hx
      · rw [List.mem_singleton.mp hx]; exact hm2
  subst e1 e2
  rw [List.length_map, List.length_range] at hp1 hl
  have hl : WdOk l 8 := hl
  have hp1 : p1.Ok (n + 8) := hp1.up (by show n + 1 + 7 ≤ n + 8; omega)
  have hp2 := tk_ok hp1 (m := 4) (by decide)
  have hp3 := tk_ok hp2 (m := 36) (by decide)
  have t4 := tk_lt p1 (m := 4) (by decide)
  have t5 := tk_lt (tk p1 4).2 (m := 36) (by decide)
  have hl8 : l.length = 8 := hl.len
  refine q_asg (ev_take (kr := []) (ev_var rfl) ev_int (hp1.up (by omega)) (by decide) (by decide)) ?_
  refine q_asg (ev_take (kr := []) (ev_var rfl) ev_int (hp2.up (by omega)) (by decide) (by decide)) ?_
  generalize tk (tk p1 4).2 36 = q3 at *
  refine q_when (et_test (ev_eqI (ev_var rfl) ev_int)) (fun _ => ?_) (fun _ => ?_)
  · refine g_retL hR (evn_map (xs := List.range m.toNat) (g := fun i : Nat => W.val (.int (i : Int))) (f := fun i => D.str (tx (l.take (i + 1)))) (ei_range1 (ea1 (ev_var rfl)) (by omega) (by omega)) (by decide) (by rw [List.length_range]; omega) ⟨trivial, fun _ => trivial⟩ (fun i hi => (ev_slX (ev_var rfl) eo_none (eo_some (ev_addI (ev_var rfl) ev_int)) (by omega)).to ?_)) ⟨(List.range m.toNat).map fun i => tx (l.take (i + 1)), _, ?_, rfl, hp3.up (by omega), by rw [List.length_map, List.length_range], fun s hs => ?_, key_nd (key := fun s => s.cps.toList.length) (f := fun j => j + 1) (fun j s e => ?_) (fun i j h1 _ => by show i + 1 ≠ j + 1; omega)⟩
    · rw [cut_to' (by omega)]
      rfl
    · unfold stD
      rw [List.map_map]
      rfl
    · obtain ⟨i, hi, rfl⟩ := List.mem_map.mp hs
      obtain ⟨d, h1, h2⟩ := hl.hd
      refine nm_of ⟨d, by rw [head_take (by omega)]; exact h1, h2⟩ (fun x hx => hl.sg x (List.mem_of_mem_take hx)) ?_
      rw [List.length_take]
      omega
    · rw [List.getElem?_map] at e
      obtain ⟨i, hi, rfl⟩ := Option.map_eq_some_iff.mp e
      obtain ⟨h1, h2⟩ := List.getElem?_eq_some_iff.mp hi
      rw [List.getElem_range] at h2
      rw [List.length_range] at h1
      subst h2
      show (tx _).cps.toList.length = _
      rw [tx_cps, List.length_take]
      omega
  refine q_when (et_test (ev_eqI (ev_var rfl) ev_int)) (fun _ => ?_) (fun _ => ?_)
  · refine g_retR hR (evr_lc (ei_range1 (ea1 (ev_var rfl)) (by omega) (by omega)) (by decide) (by rw [List.length_map, List.length_range]; omega) (fun i acc k => ∃ ss p', acc = stD ss ∧ k = [(a, .lst (Pl.ds p'))] ∧ p'.Ok (n + 10 + i) ∧ ss.length = i ∧ (∀ s ∈ ss, isNm s = true) ∧ ∀ (j : Nat) (s : Str), ss[j]? = some s → s.cps.toList[0]? = letL[((q3.1 + 3 * (j : Int)) % 26).toNat]?) ⟨[], _, rfl, rfl, hp3.up (by omega), rfl, (fun s h => by cases h), fun j s h => by simp at h⟩ (fun i acc k _ => ⟨trivial, fun _ => trivial⟩) (fun i w acc k hw ⟨ss, p', e1, e2, hp', hl2, hs, hk⟩ => ?_)) (fun nd k ⟨acc, e0, ss, p', e1, e2, hp', hl2, hs, hk⟩ => ?_)
    · subst e1 e2
      have hi : i < m.toNat := by
        have := (List.getElem?_eq_some_iff.mp hw).1
        rwa [List.length_map, List.length_range] at this
      have hw2 : w = .val (.int (i : Int)) := by
        rw [List.getElem?_map, List.getElem?_range hi] at hw
        cases hw
        rfl
      subst hw2
      have hz : 0 ≤ (q3.1 + 3 * (i : Int)) % 26 := Int.emod_nonneg _ (by decide)
      have hz2 : (q3.1 + 3 * (i : Int)) % 26 < 26 := Int.emod_lt_of_pos _ (by decide)
      obtain ⟨c, hc, hm2⟩ := sgn_at (l := letL) hz (by rw [let_len]; exact hz2)
      have t6 := tk_lt p' (m := 8) (by decide)
      refine .inr ⟨_, _, .str (tx ([c] ++ l.take (tk p' 8).1.toNat)), et_yes, (ev_addT (ev_ixT (ev_var rfl) (ev_modI (ev_addI (ev_var rfl) (ev_mulL ev_int (ev_var rfl))) ev_int (by decide)) (by decide) hc) ((ev_slX (ev_var rfl) eo_none (eo_some (ev_take (kr := []) (ev_var rfl) ev_int (hp'.up (by omega)) (by decide) (by decide))) (by omega)).to (congrArg (fun z => W.val (.str (tx z))) (cut_to' t6.1))) (by rw [List.length_take]; simp; omega)), ss ++ [tx ([c] ++ l.take (tk p' 8).1.toNat)], _, stD_app ss [_], rfl, (tk_ok hp' (by decide)).up (by push_cast; omega), by rw [List.length_append, hl2]; rfl, fun s h => ?_, key_snoc hk (by rw [hl2, at_get hz hc]; rfl)⟩
      rcases List.mem_append.mp h with h | h
      · exact hs s h
      · rw [List.mem_singleton.mp h]
        refine nm_of ⟨c, rfl, hm2⟩ (fun x hx => ?_) ?_
        · rcases List.mem_append.mp hx with hx | hx
          · rw [List.mem_singleton.mp hx]; exact List.mem_append_left _ hm2
          · exact hl.sg x (List.mem_of_mem_take hx)
        · rw [List.length_append, List.length_take]
          simp
          omega
    · subst e1 e2
      rw [List.length_map, List.length_range] at hl2 hp'
      refine ⟨_, e0, ss, p', rfl, rfl, hp'.up (by omega), hl2, hs, key_nd hk fun i j h1 h2 => nd_inj let_nd ?_ ?_⟩
      · rw [let_len]; omega
      · omega
  have t6 := tk_lt q3.2 (m := 8) (by decide)
  have hp4 := tk_ok hp3 (m := 8) (by decide)
  refine q_asg ((ev_slX (ev_var rfl) eo_none (eo_some (ev_take (kr := []) (ev_var rfl) ev_int (hp3.up (by omega)) (by decide) (by decide))) (by omega)).to (congrArg (fun z => W.val (.str (tx z))) (cut_to' t6.1))) ?_
  generalize hst : l.take (tk q3.2 8).1.toNat = st
  have hsl : st.length ≤ 7 := by
    rw [← hst, List.length_take]
    omega
  have t7 := tk_lt (tk q3.2 8).2 (m := (st.length : Int) + 1) (by omega)
  have hp5 := tk_ok hp4 (m := (st.length : Int) + 1) (by omega)
  refine q_asg (ev_take (kr := []) (ev_var rfl) (ev_addI (ev_lenX (ev_var rfl) (by omega)) ev_int) (hp4.up (by omega)) (by omega) (by omega)) ?_
  generalize tk (tk q3.2 8).2 ((st.length : Int) + 1) = q5 at *
  generalize htl : (if (q5.1 == 0) = true then letL else letL ++ digL) = tl
  have htl0 : 0 < tl.length ∧ tl.length ≤ 36 := by
    rw [← htl]
    split <;> decide
  refine q_asg (w := .val (.str (tx tl))) (ev_if (et_test (ev_eqI (ev_var rfl) ev_int)) (fun hb => (ev_var rfl).to (by rw [← htl, if_pos hb])) (fun hb => (ev_var rfl).to (by rw [← htl, if_neg (by rw [hb]; exact Bool.false_ne_true)]))) ?_
  refine q_asgN (evn_lst (ds := []) ea_nil (by decide)) (fun b => ?_)
  refine q_forn (ei_range1 (ea1 (ev_var rfl)) (by omega) (by omega)) (fun i ro ka => ∃ ss v v2, ro = [some (.val (.adr a)), some (.val (.int m)), some (.val (.str (tx letL))), some (.val (.str (tx (letL ++ digL)))), some (.val (.str (tx l))), v, some (.val (.int (tk p1 4).1)), some (.val (.int q3.1)), some (.val (.str (tx st))), some (.val (.int q5.1)), some (.val (.str (tx tl))), some (.val (.adr b)), v2] ∧ ka = [(a, .lst (Pl.ds q5.2)), (b, .lst (stD ss))] ∧ ss.length = i ∧ (∀ s ∈ ss, isNm s = true) ∧ ∀ (j : Nat) (s : Str), ss[j]? = some s → s.cps.toList[q5.1.toNat]? = tl[((q3.1 + 7 * (j : Int)) % (tl.length : Int)).toNat]?)
    ⟨[], _, none, rfl, rfl, rfl, (fun s h => by cases h), fun j s h => by simp at h⟩ (fun i ro ka _ => trivial) (fun i w ro2 ka2 ta' hw ⟨ss, v, v2, e1, e2, hl2, hs, hk⟩ => ?_) (fun ro2 ka2 ta' ⟨ss, v, v2, e1, e2, hl2, hs, hk⟩ _ => ?_)
  · subst e1 e2
    have hi : i < m.toNat := by
      have := (List.getElem?_eq_some_iff.mp hw).1
      rwa [List.length_map, List.length_range] at this
    have hw2 : w = .val (.int (i : Int)) := by
      rw [List.getElem?_map, List.getElem?_range hi] at hw
      cases hw
      rfl
    subst hw2
    have hz : 0 ≤ (q3.1 + 7 * (i : Int)) % (tl.length : Int) := Int.emod_nonneg _ (by omega)
    have hz2 : (q3.1 + 7 * (i : Int)) % (tl.length : Int) < tl.length := Int.emod_lt_of_pos _ (by omega)
    obtain ⟨c, hc, hm2⟩ := sgn_at (l := tl) hz hz2
    have hpl : q5.1 ≤ st.length := by omega
    refine q_asg (ev_ixT (ev_var rfl) (ev_modI (ev_addI (ev_var rfl) (ev_mulL ev_int (ev_var rfl))) (ev_lenX (ev_var rfl) (by omega)) (by omega)) (by omega) hc) ?_
    refine g_app (j0 := 1) (j := 1) (d := .str (tx (st.take q5.1.toNat ++ [c] ++ st.drop q5.1.toNat))) (ev_var rfl) rfl ((ev_addT (ev_addT (ev_slX (ev_var rfl) eo_none (eo_some (ev_var rfl)) (by omega)) (ev_var rfl) ?_) (ev_slX (ev_var rfl) (eo_some (ev_var rfl)) eo_none (by omega)) ?_).to ?_) rfl (by rw [stD_len]; omega) (g_jp ⟨ss ++ [tx (st.take q5.1.toNat ++ [c] ++ st.drop q5.1.toNat)], _, _, rfl, ?_, by rw [List.length_append, hl2]; rfl, fun s h => ?_, key_snoc hk ?_⟩)
    · have := cut_len st none (some q5.1)
      simp
      omega
    · have h1 := cut_len st none (some q5.1)
      have h2 := cut_len st (some q5.1) none
      rw [List.length_append]
      simp
      omega
    · rw [cut_to' t7.1, cut_from t7.1 hpl]
    · exact congrArg (fun z => [(a, Nd.lst (Pl.ds q5.2)), (b, Nd.lst z)]) (stD_app ss [_])
    · rcases List.mem_append.mp h with h | h
      · exact hs s h
      · rw [List.mem_singleton.mp h]
        refine nm_mid hl _ (by omega) hst.symm (by omega) (fun h0 => ?_) ?_
        · have : (q5.1 == 0) = true := beq_iff_eq.mpr (by omega)
          rw [if_pos this] at htl
          rw [htl]
          exact hm2
        · rw [← htl] at hm2
          split at hm2
          · exact List.mem_append_left _ hm2
          · exact hm2
    · rw [hl2, at_get hz hc, tx_cps, List.append_assoc, List.getElem?_append_right (by rw [List.length_take]; omega), List.length_take, Nat.min_eq_left (by omega), Nat.sub_self]
      rfl
  · subst e1 e2
    rw [List.length_map, List.length_range] at hl2
    have hnd : ss.Nodup := key_nd hk fun i j h1 h2 => by
      have hl36 : tl = letL ∨ tl = letL ++ digL := by
        rw [← htl]
        split
        · exact .inl rfl
        · exact .inr rfl
      rcases hl36 with q | q
      · subst q
        rw [let_len]
        exact nd_inj let_nd (by rw [let_len]; omega) (by omega)
      · rw [q, sig_len]
        exact nd_inj sig_nd (by rw [sig_len]; omega) (by omega)
    exact Gp.frz (i := 11) (j := 1) rfl rfl (g_ret hR (ev_var rfl) ⟨ss, _, rfl, rfl, hp5.up (by omega), hl2, hs, hnd⟩)
end
theorem nm_put {st : List Nat} {k c p : Nat} (hl : WdOk st k) (hk : k ≤ 7) (hp : p ≤ st.length) (h0 : p = 0 → c ∈ letL) (hc : c ∈ letL ++ digL) : isNm (tx (st.take p ++ [c] ++ st.drop p)) = true := by
  refine nm_of ?_ (fun x hx => ?_) ?_
  · by_cases hp0 : p = 0
    · subst hp0
      exact ⟨c, by simp, h0 rfl⟩
    · obtain ⟨d, h1, h2⟩ := hl.hd
      exact ⟨d, head_app (head_app (by rw [head_take (by omega)]; exact h1)), h2⟩
  · rcases List.mem_append.mp hx with hx | hx
    · rcases List.mem_append.mp hx with hx | hx
      · exact hl.sg x (List.mem_of_mem_take hx)
      · rw [List.mem_singleton.mp hx]; exact hc
    · exact hl.sg x (List.mem_of_mem_drop hx)
  · have := hl.len
    rw [List.length_append, List.length_append, List.length_take, List.length_drop]
    simp
    omega
def ct_law_many (K : PySem.W.Frag) : Ct := Ct2 fun s b ka out => ∃ a p n m, s = .val (.adr a) ∧ b = .val (.int m) ∧ ka = [(a, .lst (Pl.ds p))] ∧ p.Ok n ∧ 0 ≤ n ∧ n ≤ 900000 ∧ 0 ≤ m ∧ m ≤ 26 ∧
  out = fun o k => ∃ ss p', o = .ret (.lst (stD ss)) ∧ k = [(a, .lst (Pl.ds p'))] ∧ p'.Ok (n + 50) ∧ ss.length = m.toNat ∧ (∀ s ∈ ss, isNm s = true) ∧ ss.Nodup
section
variable {P : Program} {w : World} {K : PySem.W.Frag} {mg : Str → Option Value} {base : Heap}
theorem ok_law_many (T : Tx K mg) (F_law_take : Fn P w K mg base 4 (He.ga K "_law_take") ["_law_pool_here", "_law_many_here"] (ct_law_take K)) : Fn P w K mg base 6 (He.ga K "_law_many") ["_law_pool_here", "_law_many_here"] (ct_law_many K) := by
  obtain ⟨fd, F⟩ := T.d_law_many
  refine fn_ok F sc_law_many (fun _ _ _ _ _ _ us hl => match us, hl with | [_, _], _ => rfl) ct2_len (fun cdv A outer s H E hr => ⟨_, (pss_cons (ps_set (i := 2) sc_law_many.nd rfl (by first | exact Or.inl rfl | exact Or.inr rfl) pe_str)
      (pss_cons (ps_set (i := 3) sc_law_many.nd rfl (by first | exact Or.inl rfl | exact Or.inr rfl) (pe_op op_addU (pv 2) pe_str))
      (pss_cons (ps_set (i := 4) sc_law_many.nd rfl (by first | exact Or.inl rfl | exact Or.inr rfl) (pe_ix ix_seq (pv 2) (pe_call (F_law_take.up (by decide)).ok hr rfl T.g_law_take.1 T.g_law_take.2 (F_law_take.up (by decide)).bn .nil (pass_own rfl rfl rfl rfl) (pa_cons (pv 0) (pa_cons pe_int pa_nil))) fun _ _ => rfl))
      (pss_cons (ps_for (passes_of rfl) rfl (pi_range1 rfl T.n_range (pa_cons (pe_call (F_law_take.up (by decide)).ok hr rfl T.g_law_take.1 T.g_law_take.2 (F_law_take.up (by decide)).bn .nil (pass_own rfl rfl rfl rfl) (pa_cons (pv 0) (pa_cons pe_int pa_nil))) pa_nil)) (pg_name (i := 5) sc_law_many.nd rfl (by first | exact Or.inl rfl | exact Or.inr rfl)) (pss_one (ps_set (i := 4) sc_law_many.nd rfl (by first | exact Or.inl rfl | exact Or.inr rfl) (pe_op op_addU (pv 4) (pe_ix ix_seq (pv 3) (pe_call (F_law_take.up (by decide)).ok hr rfl T.g_law_take.1 T.g_law_take.2 (F_law_take.up (by decide)).bn .nil (pass_own rfl rfl rfl rfl) (pa_cons (pv 0) (pa_cons pe_int pa_nil))) fun _ _ => rfl)))))
      (pss_cons (ps_set (i := 6) sc_law_many.nd rfl (by first | exact Or.inl rfl | exact Or.inr rfl) (pe_call (F_law_take.up (by decide)).ok hr rfl T.g_law_take.1 T.g_law_take.2 (F_law_take.up (by decide)).bn .nil (pass_own rfl rfl rfl rfl) (pa_cons (pv 0) (pa_cons (pe_op op_addU (pe_callB call_lenU rfl T.n_len (by decide +kernel) (pa_cons (pv 4) pa_nil)) pe_int) pa_nil))))
      (pss_cons (ps_set (i := 7) sc_law_many.nd rfl (by first | exact Or.inl rfl | exact Or.inr rfl) (pe_ifExp (pt_cmpR (op_eqP (by have := (hr).units; exact this)) (pv 6) pe_int (nomark _)) (pv 2) (pv 3)))
      (pss_cons (ps_set (i := 8) sc_law_many.nd rfl (by first | exact Or.inl rfl | exact Or.inr rfl) (pe_call (F_law_take.up (by decide)).ok hr rfl T.g_law_take.1 T.g_law_take.2 (F_law_take.up (by decide)).bn .nil (pass_own rfl rfl rfl rfl) (pa_cons (pv 0) (pa_cons pe_int pa_nil))))
      (pss_cons (ps_if (pt_cmpR (op_eqP (by have := (hr).units; exact this)) (pe_call (F_law_take.up (by decide)).ok hr rfl T.g_law_take.1 T.g_law_take.2 (F_law_take.up (by decide)).bn .nil (pass_own rfl rfl rfl rfl) (pa_cons (pv 0) (pa_cons pe_int pa_nil))) pe_int (nomark _))
      (pss_one (ps_ret (pe_lc (te := (tOp (rAddU K) (tOp (rIx K) (tVar 2) (tOp rModI (tOp (rAddU K) (tVar 8) (tOp rMulU (tC (.int 3)) (tVar 5))) (tC (.int 26)))) (tSl (rSlU K) (tVar 4) tNoPart (tPart (tCall (spC K (ct_law_take K)) [] (fun _ _ _ => False) (tCons (tVar 0) (tCons (tC (.int 8)) tNil))))))) (tt := tYes) (own := [("_law_k", 5)]) rfl sc_law_many.nd (pi_range1 rfl T.n_range (pa_cons (pv 1) pa_nil)) (blk_ok ["_law_pool_here", "_law_many_here", "_law_letters", "_law_signs", "_law_stem", "_law_k", "_law_place", "_law_told", "_law_start", "_law_names_here", "_law_sign"] (defScope s_law_many) rfl rfl (by decide +kernel)) (fun _ _ _ _ _ => (pg_name (i := 5) sc_law_many.nd rfl (by first | exact Or.inl rfl | exact Or.inr rfl))) (fun _ _ _ _ _ => pts_nil) (fun _ _ _ _ _ => (pe_op op_addU (pe_ix ix_seq (pv 2) (pe_op op_mod (pe_op op_addU (pv 8) (pe_op op_mulU pe_int (pv 5))) pe_int) fun _ _ => rfl) (pe_slice sl_U (pv 4) po_none (po_some (pe_call (F_law_take.up (by decide)).ok hr rfl T.g_law_take.1 T.g_law_take.2 (F_law_take.up (by decide)).bn .nil passes_no (pa_cons (pv 0) (pa_cons pe_int pa_nil))))))))))
      pss_nil)
      (pss_cons (ps_set (i := 9) sc_law_many.nd rfl (by first | exact Or.inl rfl | exact Or.inr rfl) (pe_lst pa_nil))
      (pss_cons (ps_for (passes_of rfl) rfl (pi_range1 rfl T.n_range (pa_cons (pv 1) pa_nil)) (pg_name (i := 5) sc_law_many.nd rfl (by first | exact Or.inl rfl | exact Or.inr rfl)) (pss_cons (ps_set (i := 10) sc_law_many.nd rfl (by first | exact Or.inl rfl | exact Or.inr rfl) (pe_ix ix_seq (pv 7) (pe_op op_mod (pe_op op_addU (pv 8) (pe_op op_mulU pe_int (pv 5))) (pe_callB call_lenU rfl T.n_len (by decide +kernel) (pa_cons (pv 7) pa_nil))) fun _ _ => rfl))
      (pss_one (ps_expr (pe_bm PySem.F.plainAttrs_list PySem.F.slot_list_append PySem.F.type_list_append mt_append (pv 9) (pa_cons (pe_op op_addU (pe_op op_addU (pe_slice sl_U (pv 4) po_none (po_some (pv 6))) (pv 10)) (pe_slice sl_U (pv 4) (po_some (pv 6)) po_none)) pa_nil))))))
      (pss_one (ps_ret (pv 9))))))))))))), fun ws ka out B F0 Q hC hR hX => ?_⟩)
  obtain ⟨s1, b1, rfl, a, p, n, m, rfl, rfl, rfl, hp, hn0, hn, hm0, hm, rfl⟩ := hC
  refine q_asg (ev_str.to (congrArg (fun z => W.val (.str z)) letters_tx)) ?_
  refine q_asg (ev_addT (ev_var rfl) (ev_str.to (congrArg (fun z => W.val (.str z)) digits_tx)) (by decide)) ?_
  have t0 := tk_lt p (m := 26) (by decide)
  obtain ⟨c0, hc0, hm1⟩ := sgn_at (l := letL) t0.1 (by rw [let_len]; exact t0.2)
  have hp1 : (tk p 26).2.Ok (n + 1) := tk_ok hp (by decide)
  refine q_asg (ev_ixT (ev_var rfl) (ev_take (kr := []) (ev_var rfl) ev_int (hp.up (by omega)) (by decide) (by decide)) (by decide) hc0) ?_
  have t1 := tk_lt (tk p 26).2 (m := 7) (by decide)
  have hp2 := tk_ok hp1 (m := 7) (by decide)
  refine q_forn (ei_range1 (ea1 (ev_take (kr := []) (ev_var rfl) ev_int (hp1.up (by omega)) (by decide) (by decide))) (by omega) (by omega)) (fun i ro ka => ∃ l p' v, ro = [some (.val (.adr a)), some (.val (.int m)), some (.val (.str (tx letL))), some (.val (.str (tx (letL ++ digL)))), some (.val (.str (tx l))), v, none, none, none, none, none] ∧ ka = [(a, .lst (Pl.ds p'))] ∧ p'.Ok (n + 2 + i) ∧ WdOk l (i + 1))
    ⟨[c0], _, none, rfl, rfl, hp2.up (by omega), ⟨c0, rfl, hm1⟩, fun x hx => by rw [List.mem_singleton.mp hx]; exact List.mem_append_left _ hm1, rfl⟩ (fun i ro ka _ => trivial) (fun i w ro2 ka2 ta' hw ⟨l, p', v, e1, e2, hp', hl⟩ => ?_) (fun ro2 ka2 ta' ⟨st, p1, v, e1, e2, hp1, hl⟩ _ => ?_)
  · subst e1 e2
    have hi : i < (tk (tk p 26).2 7).1.toNat := by
      have := (List.getElem?_eq_some_iff.mp hw).1
      rwa [List.length_map, List.length_range] at this
    have t2 := tk_lt p' (m := 36) (by decide)
    obtain ⟨c, hc, hm2⟩ := sgn_at (l := letL ++ digL) t2.1 (by rw [sig_len]; exact t2.2)
    refine g_asg (ev_addT (ev_var rfl) (ev_ixT (ev_var rfl) (ev_take (kr := []) (ev_var rfl) ev_int (hp'.up (by omega)) (by decide) (by decide)) (by decide) hc) (by rw [hl.len]; simp; omega)) (g_jp ⟨l ++ [c], _, _, rfl, rfl, (tk_ok hp' (by decide)).up (by push_cast; omega), ?_, fun x hx => ?_, by rw [List.length_append, hl.len]; rfl⟩)
    · obtain ⟨d, h1, h2⟩ := hl.hd
      exact ⟨d, head_app h1, h2⟩
    · rcases List.mem_append.mp hx with hx | hx
      · exact hl.sg x hx
      · rw [List.mem_singleton.mp hx]; exact hm2
  subst e1 e2
  rw [List.length_map, List.length_range] at hp1 hl
  have hp3 : p1.Ok (n + 9) := hp1.up (by omega)
  have hsl : st.length ≤ 7 := by have := hl.len; omega
  have t7 := tk_lt p1 (m := (st.length : Int) + 1) (by omega)
  have hp5 := tk_ok hp3 (m := (st.length : Int) + 1) (by omega)
  refine q_asg (ev_take (kr := []) (ev_var rfl) (ev_addI (ev_lenX (ev_var rfl) (by omega)) ev_int) (hp3.up (by omega)) (by omega) (by omega)) ?_
  generalize tk p1 ((st.length : Int) + 1) = q5 at *
  generalize htl : (if (q5.1 == 0) = true then letL else letL ++ digL) = tl
  have htl0 : 26 ≤ tl.length ∧ tl.length ≤ 36 := by
    rw [← htl]
    split <;> decide
  refine q_asg (w := .val (.str (tx tl))) (ev_if (et_test (ev_eqI (ev_var rfl) ev_int)) (fun hb => (ev_var rfl).to (by rw [← htl, if_pos hb])) (fun hb => (ev_var rfl).to (by rw [← htl, if_neg (by rw [hb]; exact Bool.false_ne_true)]))) ?_
  have hp6 := tk_ok hp5 (m := 36) (by decide)
  refine q_asg (ev_take (kr := []) (ev_var rfl) ev_int (hp5.up (by omega)) (by decide) (by decide)) ?_
  have t8 := tk_lt q5.2 (m := 36) (by decide)
  generalize tk q5.2 36 = q3 at *
  have hp7 := tk_ok hp6 (m := 3) (by decide)
  refine q_when (et_test (ev_eqI (ev_take (kr := []) (ev_var rfl) ev_int (hp6.up (by omega)) (by decide) (by decide)) ev_int)) (fun _ => ?_) (fun _ => ?_)
  · refine g_retR hR (evr_lc (ei_range1 (ea1 (ev_var rfl)) (by omega) (by omega)) (by decide) (by rw [List.length_map, List.length_range]; omega) (fun i acc k => ∃ ss p', acc = stD ss ∧ k = [(a, .lst (Pl.ds p'))] ∧ p'.Ok (n + 12 + i) ∧ ss.length = i ∧ (∀ s ∈ ss, isNm s = true) ∧ ∀ (j : Nat) (s : Str), ss[j]? = some s → s.cps.toList[0]? = letL[((q3.1 + 3 * (j : Int)) % 26).toNat]?) ⟨[], _, rfl, rfl, hp7.up (by omega), rfl, (fun s h => by cases h), fun j s h => by simp at h⟩ (fun i acc k _ => ⟨trivial, fun _ => trivial⟩) (fun i w acc k hw ⟨ss, p', e1, e2, hp', hl2, hs, hk⟩ => ?_)) (fun nd k ⟨acc, e0, ss, p', e1, e2, hp', hl2, hs, hk⟩ => ?_)
    · subst e1 e2
      have hi : i < m.toNat := by
        have := (List.getElem?_eq_some_iff.mp hw).1
        rwa [List.length_map, List.length_range] at this
      have hw2 : w = .val (.int (i : Int)) := by
        rw [List.getElem?_map, List.getElem?_range hi] at hw
        cases hw
        rfl
      subst hw2
      have hz : 0 ≤ (q3.1 + 3 * (i : Int)) % 26 := Int.emod_nonneg _ (by decide)
      have hz2 : (q3.1 + 3 * (i : Int)) % 26 < 26 := Int.emod_lt_of_pos _ (by decide)
      obtain ⟨c, hc, hm2⟩ := sgn_at (l := letL) hz (by rw [let_len]; exact hz2)
      have t6 := tk_lt p' (m := 8) (by decide)
      refine .inr ⟨_, _, .str (tx ([c] ++ st.take (tk p' 8).1.toNat)), et_yes, (ev_addT (ev_ixT (ev_var rfl) (ev_modI (ev_addI (ev_var rfl) (ev_mulL ev_int (ev_var rfl))) ev_int (by decide)) (by decide) hc) ((ev_slX (ev_var rfl) eo_none (eo_some (ev_take (kr := []) (ev_var rfl) ev_int (hp'.up (by omega)) (by decide) (by decide))) (by omega)).to (congrArg (fun z => W.val (.str (tx z))) (cut_to' t6.1))) (by rw [List.length_take]; simp; omega)), ss ++ [tx ([c] ++ st.take (tk p' 8).1.toNat)], _, stD_app ss [_], rfl, (tk_ok hp' (by decide)).up (by push_cast; omega), by rw [List.length_append, hl2]; rfl, fun s h => ?_, key_snoc hk (by rw [hl2, at_get hz hc]; rfl)⟩
      rcases List.mem_append.mp h with h | h
      · exact hs s h
      · rw [List.mem_singleton.mp h]
        refine nm_of ⟨c, rfl, hm2⟩ (fun x hx => ?_) ?_
        · rcases List.mem_append.mp hx with hx | hx
          · rw [List.mem_singleton.mp hx]; exact List.mem_append_left _ hm2
          · exact hl.sg x (List.mem_of_mem_take hx)
        · rw [List.length_append, List.length_take]
          simp
          omega
    · subst e1 e2
      rw [List.length_map, List.length_range] at hl2 hp'
      refine ⟨_, e0, ss, p', rfl, rfl, hp'.up (by omega), hl2, hs, key_nd hk fun i j h1 h2 => nd_inj let_nd ?_ ?_⟩
      · rw [let_len]; omega
      · omega
  refine q_asgN (evn_lst (ds := []) ea_nil (by decide)) (fun b => ?_)
  refine q_forn (ei_range1 (ea1 (ev_var rfl)) (by omega) (by omega)) (fun i ro ka => ∃ ss v v2, ro = [some (.val (.adr a)), some (.val (.int m)), some (.val (.str (tx letL))), some (.val (.str (tx (letL ++ digL)))), some (.val (.str (tx st))), v, some (.val (.int q5.1)), some (.val (.str (tx tl))), some (.val (.int q3.1)), some (.val (.adr b)), v2] ∧ ka = [(a, .lst (Pl.ds (tk q3.2 3).2)), (b, .lst (stD ss))] ∧ ss.length = i ∧ (∀ s ∈ ss, isNm s = true) ∧ ∀ (j : Nat) (s : Str), ss[j]? = some s → s.cps.toList[q5.1.toNat]? = tl[((q3.1 + 7 * (j : Int)) % (tl.length : Int)).toNat]?)
    ⟨[], _, none, rfl, rfl, rfl, (fun s h => by cases h), fun j s h => by simp at h⟩ (fun i ro ka _ => trivial) (fun i w ro2 ka2 ta' hw ⟨ss, v, v2, e1, e2, hl2, hs, hk⟩ => ?_) (fun ro2 ka2 ta' ⟨ss, v, v2, e1, e2, hl2, hs, hk⟩ _ => ?_)
  · subst e1 e2
    have hi : i < m.toNat := by
      have := (List.getElem?_eq_some_iff.mp hw).1
      rwa [List.length_map, List.length_range] at this
    have hw2 : w = .val (.int (i : Int)) := by
      rw [List.getElem?_map, List.getElem?_range hi] at hw
      cases hw
      rfl
    subst hw2
    have hz : 0 ≤ (q3.1 + 7 * (i : Int)) % (tl.length : Int) := Int.emod_nonneg _ (by omega)
    have hz2 : (q3.1 + 7 * (i : Int)) % (tl.length : Int) < tl.length := Int.emod_lt_of_pos _ (by omega)
    obtain ⟨c, hc, hm2⟩ := sgn_at (l := tl) hz hz2
    have hpl : q5.1 ≤ st.length := by omega
    refine q_asg (ev_ixT (ev_var rfl) (ev_modI (ev_addI (ev_var rfl) (ev_mulL ev_int (ev_var rfl))) (ev_lenX (ev_var rfl) (by omega)) (by omega)) (by omega) hc) ?_
    refine g_app (j0 := 1) (j := 1) (d := .str (tx (st.take q5.1.toNat ++ [c] ++ st.drop q5.1.toNat))) (ev_var rfl) rfl ((ev_addT (ev_addT (ev_slX (ev_var rfl) eo_none (eo_some (ev_var rfl)) (by omega)) (ev_var rfl) ?_) (ev_slX (ev_var rfl) (eo_some (ev_var rfl)) eo_none (by omega)) ?_).to ?_) rfl (by rw [stD_len]; omega) (g_jp ⟨ss ++ [tx (st.take q5.1.toNat ++ [c] ++ st.drop q5.1.toNat)], _, _, rfl, ?_, by rw [List.length_append, hl2]; rfl, fun s h => ?_, key_snoc hk ?_⟩)
    · have := cut_len st none (some q5.1)
      simp
      omega
    · have h1 := cut_len st none (some q5.1)
      have h2 := cut_len st (some q5.1) none
      rw [List.length_append]
      simp
      omega
    · rw [cut_to' t7.1, cut_from t7.1 hpl]
    · exact congrArg (fun z => [(a, Nd.lst (Pl.ds (tk q3.2 3).2)), (b, Nd.lst z)]) (stD_app ss [_])
    · rcases List.mem_append.mp h with h | h
      · exact hs s h
      · rw [List.mem_singleton.mp h]
        refine nm_put hl (by omega) (by omega) (fun h0 => ?_) ?_
        · have : (q5.1 == 0) = true := beq_iff_eq.mpr (by omega)
          rw [if_pos this] at htl
          rw [htl]
          exact hm2
        · rw [← htl] at hm2
          split at hm2
          · exact List.mem_append_left _ hm2
          · exact hm2
    · rw [hl2, at_get hz hc, tx_cps, List.append_assoc, List.getElem?_append_right (by rw [List.length_take]; omega), List.length_take, Nat.min_eq_left (by omega), Nat.sub_self]
      rfl
  · subst e1 e2
    rw [List.length_map, List.length_range] at hl2
    have hnd : ss.Nodup := key_nd hk fun i j h1 h2 => by
      have hl36 : tl = letL ∨ tl = letL ++ digL := by
        rw [← htl]
        split
        · exact .inl rfl
        · exact .inr rfl
      rcases hl36 with q | q
      · subst q
        rw [let_len]
        exact nd_inj let_nd (by rw [let_len]; omega) (by omega)
      · rw [q, sig_len]
        exact nd_inj sig_nd (by rw [sig_len]; omega) (by omega)
    exact Gp.frz (i := 9) (j := 1) rfl rfl (g_ret hR (ev_var rfl) ⟨ss, _, rfl, rfl, hp7.up (by omega), hl2, hs, hnd⟩)
end
def ct_law_mixed (K : PySem.W.Frag) : Ct := Ct2 fun s b ka out => ∃ a p n ds, s = .val (.adr a) ∧ b = .val (.lst ds) ∧ ka = [(a, .lst (Pl.ds p))] ∧ p.Ok n ∧ 0 ≤ n ∧ n ≤ 900000 ∧ ds.length ≤ 1000 ∧
  out = fun o k => ∃ es p', o = .ret (.lst es) ∧ k = [(a, .lst (Pl.ds p'))] ∧ p'.Ok (n + ds.length) ∧ es.Perm ds
section
variable {P : Program} {w : World} {K : PySem.W.Frag} {mg : Str → Option Value} {base : Heap}
theorem ok_law_mixed (T : Tx K mg) (F_law_take : Fn P w K mg base 4 (He.ga K "_law_take") ["_law_pool_here", "_law_many_here"] (ct_law_take K)) : Fn P w K mg base 6 (He.ga K "_law_mixed") ["_law_pool_here", "_law_things"] (ct_law_mixed K) := by
  obtain ⟨fd, F⟩ := T.d_law_mixed
  refine fn_ok F sc_law_mixed (fun _ _ _ _ _ _ us hl => match us, hl with | [_, _], _ => rfl) ct2_len (fun cdv A outer s H E hr => ⟨_, (pss_cons (ps_set (i := 2) sc_law_mixed.nd rfl (by first | exact Or.inl rfl | exact Or.inr rfl) (pe_callTy call_lstU rfl T.n_list (by decide +kernel) (pa_cons (pv 1) pa_nil)))
      (pss_cons (ps_set (i := 3) sc_law_mixed.nd rfl (by first | exact Or.inl rfl | exact Or.inr rfl) (pe_lst pa_nil))
      (pss_cons (ps_for (passes_of rfl) rfl (pi_range1 rfl T.n_range (pa_cons (pe_callB call_lenU rfl T.n_len (by decide +kernel) (pa_cons (pv 1) pa_nil)) pa_nil)) (pg_name (i := 4) sc_law_mixed.nd rfl (by first | exact Or.inl rfl | exact Or.inr rfl)) (pss_cons (ps_set (i := 5) sc_law_mixed.nd rfl (by first | exact Or.inl rfl | exact Or.inr rfl) (pe_call (F_law_take.up (by decide)).ok hr rfl T.g_law_take.1 T.g_law_take.2 (F_law_take.up (by decide)).bn .nil (pass_own rfl rfl rfl rfl) (pa_cons (pv 0) (pa_cons (pe_callB call_lenU rfl T.n_len (by decide +kernel) (pa_cons (pv 2) pa_nil)) pa_nil))))
      (pss_cons (ps_expr (pe_bm PySem.F.plainAttrs_list PySem.F.slot_list_append PySem.F.type_list_append mt_append (pv 3) (pa_cons (pe_ix ix_seq (pv 2) (pv 5) fun _ _ => rfl) pa_nil)))
      (pss_one (ps_set (i := 2) sc_law_mixed.nd rfl (by first | exact Or.inl rfl | exact Or.inr rfl) (pe_op op_addU (pe_slice sl_U (pv 2) po_none (po_some (pv 5))) (pe_slice sl_U (pv 2) (po_some (pe_op op_addU (pv 5) pe_int)) po_none)))))))
      (pss_one (ps_ret (pv 3)))))), fun ws ka out B F0 Q hC hR hX => ?_⟩)
  obtain ⟨s1, b1, rfl, a, p, n, ds, rfl, rfl, rfl, hp, hn0, hn, hl, rfl⟩ := hC
  refine q_asg (evn_cb (ea1 (ev_var rfl)) (rcn_lst .vl (.inl rfl))).lst ?_
  refine q_asgN (evn_lst (ds := []) ea_nil (by decide)) (fun b => ?_)
  refine q_forn (ei_range1 (ea1 (ev_len (ev_var rfl) .vl)) (by omega) (by omega)) (fun i ro ka => ∃ ls ms p' v v2, ro = [some (.val (.adr a)), some (.val (.lst ds)), some (.val (.lst ls)), some (.val (.adr b)), v, v2] ∧ ka = [(a, .lst (Pl.ds p')), (b, .lst ms)] ∧ p'.Ok (n + i) ∧ ms.length = i ∧ (ms ++ ls).Perm ds)
    ⟨ds, [], p, none, none, rfl, rfl, hp.up (by omega), rfl, List.Perm.refl _⟩ (fun i ro ka _ => trivial) (fun i w ro2 ka2 ta' hw ⟨ls, ms, p', v, v2, e1, e2, hp', hm, hpm⟩ => ?_) (fun ro2 ka2 ta' ⟨ls, ms, p', v, v2, e1, e2, hp', hm, hpm⟩ _ => ?_)
  · subst e1 e2
    have hi : i < ds.length := by
      have := (List.getElem?_eq_some_iff.mp hw).1
      rw [List.length_map, List.length_range] at this
      omega
    have hlen : i + ls.length = ds.length := by rw [← hm, ← List.length_append, hpm.length_eq]
    have t1 := tk_lt p' (m := (ls.length : Int)) (by omega)
    refine q_asg (ev_take (kr := [(b, .lst ms)]) (ev_var rfl) (ev_len (ev_var rfl) .vl) (hp'.up (by omega)) (by omega) (by omega)) ?_
    have o1 := tk_ok hp' (m := (ls.length : Int)) (by omega)
    generalize tk p' (ls.length : Int) = q at *
    have hlt : q.1.toNat < ls.length := by omega
    refine q_app (j0 := 1) (j := 1) (d := ls[q.1.toNat]) (ev_var rfl) rfl (ev_ixV (ev_var rfl) (ev_var rfl) .vl (atZ t1.1 (List.getElem?_eq_getElem hlt))) rfl (by omega) ?_
    refine g_asg (evn_op (evn_sl (ev_var rfl) eo_none (eo_some (ev_var rfl)) .vl).lst (evn_sl (ev_var rfl) (eo_some (ev_addI (ev_var rfl) ev_int)) eo_none .vl).lst (rvn_cat (b1 := false) (b2 := false) .vl .vl ?_)).lst (g_jp ⟨_, _, q.2, _, _, rfl, rfl, o1.up (by push_cast; omega), by rw [List.length_append, hm]; rfl, ?_⟩)
    · have h1 := cut_len ls none (some q.1)
      have h2 := cut_len ls (some (q.1 + 1)) none
      omega
    · rw [cut_to' t1.1, cut_from (by omega) (by omega)]
      have e3 : ls = ls.take q.1.toNat ++ ls[q.1.toNat] :: ls.drop (q.1.toNat + 1) := by rw [List.getElem_cons_drop, List.take_append_drop]
      have e4 : (q.1 + 1).toNat = q.1.toNat + 1 := by omega
      rw [e4, List.append_assoc]
      refine List.Perm.trans (List.Perm.append_left ms ?_) hpm
      exact (List.perm_middle (l₁ := ls.take q.1.toNat) (l₂ := ls.drop (q.1.toNat + 1)) (a := ls[q.1.toNat])).symm.trans (List.Perm.of_eq e3.symm)
  · subst e1 e2
    rw [List.length_map, List.length_range] at hp' hm
    have h0 : ls = [] := by
      have := hpm.length_eq
      rw [List.length_append] at this
      exact List.eq_nil_of_length_eq_zero (by omega)
    subst h0
    rw [List.append_nil] at hpm
    exact Gp.frz (i := 3) (j := 1) rfl rfl (g_ret hR (ev_var rfl) ⟨ms, p', rfl, rfl, hp'.up (by omega), hpm⟩)
end
def rwL (r : Ln) : D := .tup [.str r.1, .str r.2.1, .str r.2.2]
def rwD (es : List Ln) : List D := es.map rwL
def PtD (ps : List Str) (es : List Ln) : D := .lst [.lst (stD ps), .lst (rwD es)]
/-- posts and lanes of a net -/
structure PtOk (ps : List Str) (es : List Ln) : Prop where
  pn : ∀ p ∈ ps, isNm p = true
  pd : ps.Nodup
  en : ∀ r ∈ es, isNm r.1 = true
  ed : (lnN es).Nodup
  st : ∀ r ∈ es, r.2.1 ∈ ps ∧ r.2.2 ∈ ps
  pl : ps.length ≤ 40
  el : es.length ≤ 100
theorem nm_ok {s : Str} (h : isNm s = true) : nmOk (.str s) := Nat.le_trans (isNm_len h) (by decide)
theorem po_ok {K : PySem.W.Frag} {a o d : Addr} {ps : List Str} {es : List Ln} {s : Str} (h : isNm s = true) (hn : ¬ s ∈ ps) : poO K a o d ps es (.str s) = Rt .non (NetC K a o d (ps ++ [s]) es) := by
  unfold poO
  rw [if_neg (by show ¬ isNm s = false; rw [h]; decide)]
  exact if_neg hn
theorem la_ok {K : PySem.W.Frag} {a o d : Addr} {ps : List Str} {es : List Ln} {s st en : Str} (h : isNm s = true) (hn : ¬ s ∈ lnN es) (h1 : st ∈ ps) (h2 : en ∈ ps) : laO K a o d ps es (.str s) st en = Rt .non (NetC K a o d ps (es ++ [(s, st, en)])) := by
  unfold laO
  rw [if_neg (by show ¬ isNm s = false; rw [h]; decide)]
  exact (if_neg hn).trans ((if_neg fun z => z h1).trans (if_neg fun z => z h2))
theorem not_take {α : Type} {xs : List α} (h : xs.Nodup) {i : Nat} {x : α} (hx : xs[i]? = some x) : ¬ x ∈ xs.take i := fun hm => by
  have e : xs = xs.take i ++ x :: xs.drop (i + 1) := by
    obtain ⟨hi, rfl⟩ := List.getElem?_eq_some_iff.mp hx
    rw [List.getElem_cons_drop, List.take_append_drop]
  rw [e, List.nodup_append] at h
  exact h.2.2 x hm x List.mem_cons_self rfl
theorem lnN_take (es : List Ln) (i : Nat) : lnN (es.take i) = (lnN es).take i := List.map_take
def ct_law_built (K : PySem.W.Frag) : Ct := Ct1 fun s ka out => ∃ ps es, s = .val (PtD ps es) ∧ PtOk ps es ∧ ka = [] ∧ out = fun o' k => ∃ a o d, o' = .ret (.adr a) ∧ k = NetC K a o d ps es
section
variable {P : Program} {w : World} {K : PySem.W.Frag} {mg : Str → Option Value} {base : Heap}
theorem ok_law_built (T : Tx K mg) (F_Net___init : FnE P w K mg base 4 (He.ma K (He.ga K "Net") "__init__") ["self", "order", "ends_by_lane"] [.ref (He.dflAt ("Net", some "__init__") 0 K), .non] (ct_Net___init K)) (F_Net_post : Fn P w K mg base 6 (He.ma K (He.ga K "Net") "post") ["self", "name"] (ct_Net_post K)) (F_Net_lane : Fn P w K mg base 6 (He.ma K (He.ga K "Net") "lane") ["self", "name", "start", "end"] (ct_Net_lane K)) : Fn P w K mg base 8 (He.ga K "_law_built") ["_law_parts"] (ct_law_built K) := by
  obtain ⟨fd, F⟩ := T.d_law_built
  refine fn_ok F sc_law_built (fun _ _ _ _ _ _ us hl => match us, hl with | [_], _ => rfl) ct1_len (fun cdv A outer s H E hr => ⟨_, (pss_cons (ps_set (i := 1) sc_law_built.nd rfl (by first | exact Or.inl rfl | exact Or.inr rfl) (pe_make0 T.mk_Net (F_Net___init.d.up (by decide)).ok hr rfl T.g_Net.1 (F_Net___init.d.up (by decide)).bn (F_Net___init.d.up (by decide)).dv (pass_own rfl rfl rfl rfl)))
      (pss_cons (ps_for (passes_of rfl) rfl (pi_seq (pe_ix ix_seq (pv 0) pe_int fun _ _ => rfl)) (pg_name (i := 2) sc_law_built.nd rfl (by first | exact Or.inl rfl | exact Or.inr rfl)) (pss_one (ps_expr (pe_meth (pv 1) T.cl_Net T.me_Net_post (F_Net_post.up (by decide)).ok hr (F_Net_post.up (by decide)).bn .nil (pass_own rfl rfl rfl rfl) (pa_cons (pv 2) pa_nil)))))
      (pss_cons (ps_for (passes_of rfl) rfl (pi_seq (pe_ix ix_seq (pv 0) pe_int fun _ _ => rfl)) (pg_tup rfl (pgs_cons (pg_name (i := 3) sc_law_built.nd rfl (by first | exact Or.inl rfl | exact Or.inr rfl)) (pgs_cons (pg_name (i := 4) sc_law_built.nd rfl (by first | exact Or.inl rfl | exact Or.inr rfl)) (pgs_cons (pg_name (i := 5) sc_law_built.nd rfl (by first | exact Or.inl rfl | exact Or.inr rfl)) pgs_nil)))) (pss_one (ps_expr (pe_meth (pv 1) T.cl_Net T.me_Net_lane (F_Net_lane.up (by decide)).ok hr (F_Net_lane.up (by decide)).bn .nil (pass_own rfl rfl rfl rfl) (pa_cons (pv 3) (pa_cons (pv 4) (pa_cons (pv 5) pa_nil)))))))
      (pss_one (ps_ret (pv 1)))))), fun ws ka out B F0 Q hC hR hX => ?_⟩)
  obtain ⟨s, rfl, ps, es, rfl, hok, rfl, rfl⟩ := hC
  refine q_asgR (evr_make (P := fun w k => ∃ a o d, w = .val (.adr a) ∧ k = NetC K a o d [] []) ea_nil (dv_cons (wok_t0 T.t0_Net___init) (dv_cons (w := .val .non) (fun _ _ => rfl) dv_nil)) fun a => ⟨_, ⟨_, _, _, rfl, a, true, false, [], [], rfl, rfl, .vt, Nat.zero_le _, Nat.zero_le _, List.nodup_nil, .inl ⟨rfl, rfl⟩, rfl⟩, fun o' k ⟨o, d, h1, h2⟩ => ⟨h1, a, o, d, rfl, h2⟩⟩) fun w k1 ⟨a, o, d, h1, h2⟩ => ?_
  subst h1 h2
  refine q_forn (ei_strs (ev_ixV (ev_var rfl) ev_int .vl at0)) (fun i ro ka => ∃ v, ro = [some (.val (PtD ps es)), some (.val (.adr a)), v, none, none, none] ∧ ka = NetC K a o d (ps.take i) []) ⟨none, rfl, rfl⟩ (fun i ro ka _ => trivial) (fun i w ro2 ka2 ta' hw ⟨v, e1, e2⟩ => ?_) (fun ro2 ka2 ta' ⟨v, e1, e2⟩ _ => ?_)
  · subst e1 e2
    rw [List.getElem?_map] at hw
    obtain ⟨p, hp, rfl⟩ := Option.map_eq_some_iff.mp hw
    have hm := List.mem_of_getElem? hp
    refine g_drop (ev_methA (k2 := NetC K a o d (ps.take i) []) (k3 := NetC K a o d (ps.take i ++ [p]) []) (d := .non) [] (ev_var rfl) (.c 0 rfl) rfl (ea1 (ev_var rfl)) ⟨_, _, rfl, a, o, d, ps.take i, [], .str p, rfl, rfl, nm_ok (hok.pn p hm), ?_, rfl, (po_ok (hok.pn p hm) (not_take hok.pd hp)).symm⟩) (g_jp ⟨_, rfl, ?_⟩)
    · have := hok.pl
      rw [List.length_take]
      omega
    · rw [take_succ_some hp]
      rfl
  subst e1 e2
  rw [List.length_map, List.take_length]
  refine q_forT (ei_map (ts := es) (f := rwL) (ev_ixV (ev_var rfl) ev_int .vl (atI_nat (j := 1) rfl))) (fun i ro ka => ∃ v v1 v2 v3, ro = [some (.val (PtD ps es)), some (.val (.adr a)), v, v1, v2, v3] ∧ ka = NetC K a o d ps (es.take i)) ⟨v, none, none, none, rfl, rfl⟩ (fun i ro ka _ => trivial) (fun i w ro2 ka2 ta' hw ⟨v, v1, v2, v3, e1, e2⟩ => ?_) (fun ro2 ka2 ta' ⟨v, v1, v2, v3, e1, e2⟩ _ => ?_)
  · subst e1 e2
    rw [List.getElem?_map] at hw
    obtain ⟨r, hr2, rfl⟩ := Option.map_eq_some_iff.mp hw
    have hm := List.mem_of_getElem? hr2
    refine ⟨_, at_t3, g_drop (ev_methA (k2 := NetC K a o d ps (es.take i)) (k3 := NetC K a o d ps (es.take i ++ [r])) (d := .non) [] (ev_var rfl) (.c 0 rfl) rfl (ea3 (ev_var rfl) (ev_var rfl) (ev_var rfl)) ⟨_, _, _, _, rfl, a, o, d, ps, es.take i, .str r.1, r.2.1, r.2.2, rfl, rfl, nm_ok (hok.en r hm), rfl, rfl, ?_, rfl, (la_ok (hok.en r hm) ?_ (hok.st r hm).1 (hok.st r hm).2).symm⟩) (g_jp ⟨_, _, _, _, rfl, ?_⟩)⟩
    · have := hok.el
      rw [List.length_take]
      omega
    · rw [lnN_take]
      exact not_take hok.ed (lnN_at hr2)
    · rw [take_succ_some hr2]
      rfl
  · subst e1 e2
    rw [List.length_map, List.take_length]
    exact g_ret hR (ev_var rfl) ⟨a, o, d, rfl, rfl⟩
end
theorem rwD_len (es : List Ln) : (rwD es).length = es.length := List.length_map _
theorem rwD_app (es fs : List Ln) : rwD (es ++ fs) = rwD es ++ rwD fs := List.map_append
/-- names as drawn for lanes -/
structure ToOk (ts : List Str) (m : Nat) : Prop where
  nm : ∀ s ∈ ts, isNm s = true
  nd : ts.Nodup
  le : ts.length ≤ m
  ge : min m 8 ≤ ts.length
/-- rows so far: their names stand in order among the first i told ones -/
structure FoOk (ps ts : List Str) (fs : List Ln) (i : Nat) : Prop where
  sub : (lnN fs).Sublist (ts.take i)
  st : ∀ r ∈ fs, r.2.1 ∈ ps ∧ r.2.2 ∈ ps
theorem FoOk.skip {ps ts : List Str} {fs : List Ln} {i : Nat} (h : FoOk ps ts fs i) : FoOk ps ts fs (i + 1) := ⟨h.sub.trans (List.take_sublist_take_left (Nat.le_succ i)), h.st⟩
theorem FoOk.add {ps ts : List Str} {fs : List Ln} {i : Nat} (h : FoOk ps ts fs i) {x p q : Str} (hx : ts[i]? = some x) (hp : p ∈ ps) (hq : q ∈ ps) : FoOk ps ts (fs ++ [(x, p, q)]) (i + 1) := by
  refine ⟨?_, fun r hr => ?_⟩
  · rw [take_succ_some hx]
    have e : lnN (fs ++ [(x, p, q)]) = lnN fs ++ [x] := List.map_append
    rw [e]
    exact h.sub.append (List.Sublist.refl _)
  · rcases List.mem_append.mp hr with hr | hr
    · exact h.st r hr
    · rw [List.mem_singleton.mp hr]; exact ⟨hp, hq⟩
theorem FoOk.len {ps ts : List Str} {fs : List Ln} {i : Nat} (h : FoOk ps ts fs i) : fs.length ≤ ts.length := by
  have := h.sub.length_le
  rw [lnN_len, List.length_take] at this
  omega
theorem rwD_perm : ∀ {fs : List Ln} {ds : List D}, ds.Perm (rwD fs) → ∃ es : List Ln, ds = rwD es ∧ es.Perm fs := fun {fs ds} h => by
  have key : ∀ (l : List D) (m : List D), l.Perm m → ∀ fs : List Ln, m = rwD fs → ∃ es : List Ln, l = rwD es ∧ es.Perm fs := by
    intro l m h
    induction h with
    | nil =>
      intro fs e
      cases fs with
      | nil => exact ⟨[], rfl, List.Perm.refl _⟩
      | cons _ _ => cases e
    | cons x _ ih =>
      intro fs e
      cases fs with
      | nil => cases e
      | cons r fs =>
        obtain ⟨e1, e2⟩ := List.cons.inj e
        obtain ⟨es, h1, h2⟩ := ih fs e2
        exact ⟨r :: es, by rw [h1, e1]; rfl, h2.cons r⟩
    | swap x y l =>
      intro fs e
      match fs, e with
      | r :: r2 :: fs, e =>
        obtain ⟨e1, e2⟩ := List.cons.inj e
        obtain ⟨e3, e4⟩ := List.cons.inj e2
        exact ⟨r2 :: r :: fs, by rw [e1, e3, e4]; rfl, List.Perm.swap _ _ _⟩
    | trans _ _ ih1 ih2 =>
      intro fs e
      obtain ⟨es, h1, h2⟩ := ih2 fs e
      obtain ⟨es2, h3, h4⟩ := ih1 es h1
      exact ⟨es2, h3, h4.trans h2⟩
  exact key ds _ h fs rfl
theorem lnN_perm {es fs : List Ln} (h : es.Perm fs) : (lnN es).Perm (lnN fs) := h.map _
def ct_law_net (K : PySem.W.Frag) : Ct := Ct3 fun s b c ka out => ∃ a p n m l, s = .val (.adr a) ∧ b = .val (.int m) ∧ c = .val (.int l) ∧ ka = [(a, .lst (Pl.ds p))] ∧ p.Ok n ∧ 0 ≤ n ∧ n ≤ 800000 ∧ 0 ≤ m ∧ m ≤ 7 ∧ 0 ≤ l ∧ l ≤ 26 ∧
  out = fun o k => ∃ ps es p', o = .ret (PtD ps es) ∧ k = [(a, .lst (Pl.ds p'))] ∧ p'.Ok (n + 300) ∧ PtOk ps es ∧ (ps.length : Int) ≤ m ∧ (es.length : Int) ≤ l
section
variable {P : Program} {w : World} {K : PySem.W.Frag} {mg : Str → Option Value} {base : Heap}
theorem ok_law_net (T : Tx K mg) (F_law_take : Fn P w K mg base 4 (He.ga K "_law_take") ["_law_pool_here", "_law_many_here"] (ct_law_take K)) (F_law_names : Fn P w K mg base 6 (He.ga K "_law_names") ["_law_pool_here", "_law_many_here"] (ct_law_names K)) (F_law_many : Fn P w K mg base 6 (He.ga K "_law_many") ["_law_pool_here", "_law_many_here"] (ct_law_many K)) (F_law_mixed : Fn P w K mg base 6 (He.ga K "_law_mixed") ["_law_pool_here", "_law_things"] (ct_law_mixed K)) : Fn P w K mg base 8 (He.ga K "_law_net") ["_law_pool_here", "_law_most", "_law_lanes"] (ct_law_net K) := by
  obtain ⟨fd, F⟩ := T.d_law_net
  refine fn_ok F sc_law_net (fun _ _ _ _ _ _ us hl => match us, hl with | [_, _, _], _ => rfl) ct3_len (fun cdv A outer s H E hr => ⟨_, (pss_cons (ps_set (i := 3) sc_law_net.nd rfl (by first | exact Or.inl rfl | exact Or.inr rfl) (pe_call (F_law_names.up (by decide)).ok hr rfl T.g_law_names.1 T.g_law_names.2 (F_law_names.up (by decide)).bn .nil (pass_own rfl rfl rfl rfl) (pa_cons (pv 0) (pa_cons pe_int pa_nil))))
      (pss_cons (ps_set (i := 4) sc_law_net.nd rfl (by first | exact Or.inl rfl | exact Or.inr rfl) (pe_slice sl_U (pv 3) po_none (po_some (pe_call (F_law_take.up (by decide)).ok hr rfl T.g_law_take.1 T.g_law_take.2 (F_law_take.up (by decide)).bn .nil (pass_own rfl rfl rfl rfl) (pa_cons (pv 0) (pa_cons (pe_op op_addU (pv 1) pe_int) pa_nil))))))
      (pss_cons (ps_set (i := 5) sc_law_net.nd rfl (by first | exact Or.inl rfl | exact Or.inr rfl) (pe_call (F_law_many.up (by decide)).ok hr rfl T.g_law_many.1 T.g_law_many.2 (F_law_many.up (by decide)).bn .nil (pass_own rfl rfl rfl rfl) (pa_cons (pv 0) (pa_cons (pv 2) pa_nil))))
      (pss_cons (ps_if (pt_cmpR (op_eqP (by have := (hr).units; exact this)) (pe_call (F_law_take.up (by decide)).ok hr rfl T.g_law_take.1 T.g_law_take.2 (F_law_take.up (by decide)).bn .nil (pass_own rfl rfl rfl rfl) (pa_cons (pv 0) (pa_cons pe_int pa_nil))) pe_int (nomark _))
      (pss_one (ps_set (i := 5) sc_law_net.nd rfl (by first | exact Or.inl rfl | exact Or.inr rfl) (pe_slice sl_U (pe_op op_addU (pe_revL (pv 3)) (pe_lc (te := (tVar 6)) (tt := (tTest (tOp (rNiU K) (tVar 6) (tVar 3)))) (own := [("_law_name", 6)]) rfl sc_law_net.nd (pi_seq (pv 5)) (blk_ok ["_law_pool_here", "_law_most", "_law_lanes", "_law_names_here", "_law_posts", "_law_told", "_law_name", "_law_found", "_law_k", "_law_start"] (defScope s_law_net) rfl rfl (by decide +kernel)) (fun _ _ _ _ _ => (pg_name (i := 6) sc_law_net.nd rfl (by first | exact Or.inl rfl | exact Or.inr rfl))) (fun _ _ _ _ _ => (pts_one (pt_cmpR op_niU (pv 6) (pv 3) (by with_unfolding_all rfl)))) (fun _ _ _ _ _ => (pv 6)))) po_none (po_some (pv 2)))))
      pss_nil)
      (pss_cons (ps_set (i := 7) sc_law_net.nd rfl (by first | exact Or.inl rfl | exact Or.inr rfl) (pe_lst pa_nil))
      (pss_cons (ps_if (PW.pt (pw_and (pt_cmpR (op_neP (by have := (hr).units; exact this)) (pv 4) (pe_lst pa_nil) (nomark _)) (pw_and1 (pt_cmpR (op_eqP (by have := (hr).units; exact this)) (pe_call (F_law_take.up (by decide)).ok hr rfl T.g_law_take.1 T.g_law_take.2 (F_law_take.up (by decide)).bn .nil (pass_own rfl rfl rfl rfl) (pa_cons (pv 0) (pa_cons pe_int pa_nil))) pe_int (nomark _)))))
      (pss_one (ps_for (passes_of rfl) rfl (pi_range1 rfl T.n_range (pa_cons (pe_callB (call_min2 rfl) rfl T.n_min (by decide +kernel) (pa_cons (pv 2) (pa_cons (pe_callB call_lenU rfl T.n_len (by decide +kernel) (pa_cons (pv 4) pa_nil)) pa_nil))) pa_nil)) (pg_name (i := 8) sc_law_net.nd rfl (by first | exact Or.inl rfl | exact Or.inr rfl)) (pss_one (ps_expr (pe_bm PySem.F.plainAttrs_list PySem.F.slot_list_append PySem.F.type_list_append mt_append (pv 7) (pa_cons (pe_tup (pa_cons (pe_ix ix_seq (pv 5) (pv 8) fun _ _ => rfl) (pa_cons (pe_ix ix_seq (pv 4) (pv 8) fun _ _ => rfl) (pa_cons (pe_ix ix_seq (pv 4) (pe_op op_mod (pe_op op_addU (pv 8) pe_int) (pe_callB call_lenU rfl T.n_len (by decide +kernel) (pa_cons (pv 4) pa_nil))) fun _ _ => rfl) pa_nil)))) pa_nil))))))
      pss_nil)
      (pss_cons (ps_for (passes_of rfl) rfl (pi_seq (pe_slice sl_U (pv 5) (po_some (pe_callB call_lenU rfl T.n_len (by decide +kernel) (pa_cons (pv 7) pa_nil))) po_none)) (pg_name (i := 6) sc_law_net.nd rfl (by first | exact Or.inl rfl | exact Or.inr rfl)) (pss_one (ps_if (PW.pt (pw_and (pt_cmpR (op_neP (by have := (hr).units; exact this)) (pv 4) (pe_lst pa_nil) (nomark _)) (pw_and1 (pt_cmpR op_gt (pe_call (F_law_take.up (by decide)).ok hr rfl T.g_law_take.1 T.g_law_take.2 (F_law_take.up (by decide)).bn .nil (pass_own rfl rfl rfl rfl) (pa_cons (pv 0) (pa_cons pe_int pa_nil))) pe_int (nomark _)))))
      (pss_cons (ps_set (i := 9) sc_law_net.nd rfl (by first | exact Or.inl rfl | exact Or.inr rfl) (pe_ix ix_seq (pv 4) (pe_call (F_law_take.up (by decide)).ok hr rfl T.g_law_take.1 T.g_law_take.2 (F_law_take.up (by decide)).bn .nil (pass_own rfl rfl rfl rfl) (pa_cons (pv 0) (pa_cons (pe_callB call_lenU rfl T.n_len (by decide +kernel) (pa_cons (pv 4) pa_nil)) pa_nil))) fun _ _ => rfl))
      (pss_one (ps_expr (pe_bm PySem.F.plainAttrs_list PySem.F.slot_list_append PySem.F.type_list_append mt_append (pv 7) (pa_cons (pe_tup (pa_cons (pv 6) (pa_cons (pv 9) (pa_cons (pe_ix ix_seq (pv 4) (pe_call (F_law_take.up (by decide)).ok hr rfl T.g_law_take.1 T.g_law_take.2 (F_law_take.up (by decide)).bn .nil (pass_own rfl rfl rfl rfl) (pa_cons (pv 0) (pa_cons (pe_callB call_lenU rfl T.n_len (by decide +kernel) (pa_cons (pv 4) pa_nil)) pa_nil))) fun _ _ => rfl) pa_nil)))) pa_nil)))))
      pss_nil)))
      (pss_one (ps_ret (pe_lst (pa_cons (pv 4) (pa_cons (pe_call (F_law_mixed.up (by decide)).ok hr rfl T.g_law_mixed.1 T.g_law_mixed.2 (F_law_mixed.up (by decide)).bn .nil (pass_own rfl rfl rfl rfl) (pa_cons (pv 0) (pa_cons (pv 7) pa_nil))) pa_nil)))))))))))), fun ws ka out B F0 Q hC hR hX => ?_⟩)
  obtain ⟨s1, b1, c1, rfl, a, p, n, m, l, rfl, rfl, rfl, rfl, hp, hn0, hn, hm0, hm, hl0, hl, rfl⟩ := hC
  refine q_call (kr := []) (k1 := [(a, .lst (Pl.ds p))]) (ea2 (ev_var rfl) ev_int) ⟨_, _, rfl, a, p, n, 8, rfl, rfl, rfl, hp, hn0, by omega, by decide, by decide, rfl⟩ (fun o k ⟨ss, p', h, _⟩ => ⟨_, h⟩) ?_
  rintro _ _ ⟨ns, p1, e, rfl, hp1, hln, hnm, hnd⟩
  cases e
  have hln : ns.length = 8 := hln
  have t1 := tk_lt p1 (m := m + 1) (by omega)
  have hp2 := tk_ok hp1 (m := m + 1) (by omega)
  refine q_asg ((evn_sl (ev_var rfl) eo_none (eo_some (ev_take (kr := []) (ev_var rfl) (ev_addI (ev_var rfl) ev_int) (hp1.up (by omega)) (by omega) (by omega))) .vl).lst.to (congrArg (fun z => W.val (.lst z)) ((cut_to' t1.1).trans (stD_take ns _)))) ?_
  generalize tk p1 (m + 1) = q1 at *
  generalize hps : ns.take q1.1.toNat = ps
  have hpl : (ps.length : Int) ≤ m ∧ ps.length ≤ 7 := by rw [← hps, List.length_take]; omega
  have hpn : ∀ s ∈ ps, isNm s = true := fun s hs => hnm s (List.mem_of_mem_take (hps ▸ hs))
  have hpd : ps.Nodup := hps ▸ (List.take_sublist _ _).nodup hnd
  refine q_call (kr := []) (k1 := [(a, .lst (Pl.ds q1.2))]) (ea2 (ev_var rfl) (ev_var rfl)) ⟨_, _, rfl, a, q1.2, n + 31, l, rfl, rfl, rfl, hp2.up (by omega), by omega, by omega, hl0, hl, rfl⟩ (fun o k ⟨ss, p', h, _⟩ => ⟨_, h⟩) ?_
  rintro _ _ ⟨ts, p3, e, rfl, hp3, hts, htn, htd⟩
  cases e
  have hto : ToOk ts l.toNat := ⟨htn, htd, by omega, by rw [hts]; exact Nat.min_le_left _ _⟩
  have hp4 := tk_ok hp3 (m := 3) (by decide)
  refine q_whenI (fun ro ka => ∃ (ts : List Str) (p' : Pl) (v : Option W), ro = [some (.val (.adr a)), some (.val (.int m)), some (.val (.int l)), some (.val (.lst (stD ns))), some (.val (.lst (stD ps))), some (.val (.lst (stD ts))), v, none, none, none] ∧ ka = [(a, .lst (Pl.ds p'))] ∧ p'.Ok (n + 82) ∧ ToOk ts l.toNat)
    (et_test (ev_eqI (ev_take (kr := []) (ev_var rfl) ev_int (hp3.up (by omega)) (by decide) (by decide)) ev_int)) (fun hb nx k => ?_) (fun hb => ⟨ts, _, none, rfl, rfl, hp4.up (by omega), hto⟩) (fun ro2 ka2 ⟨ts, p4, v, e1, e2, hp4, hto⟩ => ?_)
  · have hmem : ∀ s, s ∈ ns.reverse ++ (ts.filter fun s => !decide (s ∈ ns)) → s ∈ ns ∨ s ∈ ts := fun s hs => (List.mem_append.mp hs).imp List.mem_reverse.mp fun z => (List.mem_filter.mp z).1
    have hnd2 : (ns.reverse ++ (ts.filter fun s => !decide (s ∈ ns))).Nodup := by
      rw [List.nodup_append]
      refine ⟨List.pairwise_reverse.mpr (hnd.imp Ne.symm), htd.filter _, fun x hx y hy z => ?_⟩
      have := (List.mem_filter.mp hy).2
      rw [Bool.not_eq_true', decide_eq_false_iff_not] at this
      exact this (z ▸ List.mem_reverse.mp hx)
    have hlen : (ns.reverse ++ (ts.filter fun s => !decide (s ∈ ns))).length ≤ 8 + ts.length ∧ 8 ≤ (ns.reverse ++ (ts.filter fun s => !decide (s ∈ ns))).length := by
      rw [List.length_append, List.length_reverse, hln]
      have := List.length_filter_le (fun s => !decide (s ∈ ns)) ts
      omega
    refine g_asg ((evn_sl (w := .val (.lst (stD (ns.reverse ++ (ts.filter fun s => !decide (s ∈ ns)))))) ((evn_op (evn_revL (ds := stD ns) (ev_var rfl) .vl (.inl rfl)).lst (evn_filt (xs := ts) (g := fun s => W.val (.str s)) (f := fun s => D.str s) (p := fun s => !decide (s ∈ ns)) (ei_strs (ev_var rfl)) (by decide) (by omega) ⟨trivial, fun _ => trivial⟩ (fun s hs => et_test (ev_niL (ev_var rfl) (ev_var rfl) .vl)) (fun s hs _ => ev_var rfl)).lst (rvn_cat (b1 := false) (b2 := false) .vl .vl ?_)).lst.to ?_) eo_none (eo_some (ev_var rfl)) .vl).lst.to (congrArg (fun z => W.val (.lst z)) ((cut_to' hl0).trans (stD_take _ _)))) (k _ _ ⟨_, _, _, rfl, rfl, hp4.up (by omega), ⟨fun s hs => ?_, (List.take_sublist _ _).nodup hnd2, ?_, ?_⟩⟩)
    · have := List.length_filter_le (fun s => !decide (s ∈ ns)) ts
      rw [List.length_reverse, stD_len, List.length_map]
      omega
    · refine congrArg (fun z => W.val (.lst z)) ?_
      unfold stD
      rw [List.map_append, List.map_reverse]
    · exact (hmem s (List.mem_of_mem_take hs)).elim (hnm s) (htn s)
    · rw [List.length_take]; omega
    · rw [List.length_take]; omega
  subst e1 e2
  refine q_asgN (evn_lst (ds := []) ea_nil (by decide)) (fun b => ?_)
  by_cases h0 : ps = []
  · subst h0
    refine q_when (et_and0 ((et_test (ev_ne (d := .lst []) (e := .lst []) (ev_var rfl) (evn_lst (ds := []) ea_nil (by decide)).lst .v .v rfl rfl)).to rfl)) (fun z => by cases z) (fun _ => ?_)
    refine q_forn (ei_strs ((evn_sl (ev_var rfl) (eo_some (ev_len (ev_var rfl) (.ce 1 rfl))) eo_none .vl).lst.to (congrArg (fun z => W.val (.lst z)) (cut_from (by decide) (by simp))))) (fun i ro ka => ∃ v : Option W, ro = [some (.val (.adr a)), some (.val (.int m)), some (.val (.int l)), some (.val (.lst (stD ns))), some (.val (.lst (stD []))), some (.val (.lst (stD ts))), v, some (.val (.adr b)), none, none] ∧ ka = [(a, .lst (Pl.ds p4)), (b, .lst [])]) ⟨_, rfl, rfl⟩ (fun i ro ka _ => trivial) (fun i w ro2 ka2 ta' hw ⟨v, e1, e2⟩ => ?_) (fun ro2 ka2 ta' ⟨v, e1, e2⟩ _ => ?_)
    · subst e1 e2
      exact g_if (et_and0 ((et_test (ev_ne (d := .lst []) (e := .lst []) (ev_var rfl) (evn_lst (ds := []) ea_nil (by decide)).lst .v .v rfl rfl)).to rfl)) (fun z => by cases z) (fun _ => g_next (g_jp ⟨_, rfl, rfl⟩))
    · subst e1 e2
      refine Gp.frz (i := 7) (j := 1) rfl rfl ?_
      refine g_retR hR (evnr_l2 (ev_var rfl) (evr_call (k1 := [(a, .lst (Pl.ds p4))]) [] (ea2 (ev_var rfl) (ev_var rfl)) ⟨_, _, rfl, a, p4, n + 82, [], rfl, rfl, rfl, hp4, by omega, by omega, by decide, rfl⟩ (fun o k ⟨es, p', h, _⟩ => ⟨_, h⟩)) (R := fun nd k => ∃ ds, nd = .lst [.lst (stD []), .lst ds] ∧ ∃ p', k = [(a, .lst (Pl.ds p'))] ∧ p'.Ok (n + 82 + 0) ∧ ds.Perm []) fun w k ⟨d, k2, ⟨es, p', e1, e2, e3, e4⟩, e5, e6⟩ => ?_) (fun nd k ⟨ds, e1, p', e2, e3, e4⟩ => ?_)
      · cases e1
        subst e2 e5 e6
        exact ⟨_, rfl, es, rfl, p', rfl, e3, e4⟩
      · rw [List.perm_nil.mp e4] at e1
        exact ⟨_, e1, [], [], p', rfl, e2, e3.up (by omega), ⟨fun _ h => (by cases h), List.nodup_nil, fun _ h => (by cases h), List.nodup_nil, fun _ h => (by cases h), by decide, by decide⟩, by simpa using hm0, by simpa using hl0⟩
  · have hpp : 0 < ps.length := List.length_pos_iff.mpr h0
    have hne : ∀ {ro : Ro} {ka : Cells}, ro[4]? = some (some (.val (.lst (stD ps)))) → EvT K (tTest (tOp (rEqP K true) (tVar 4) (tLst tNil))) ro ka true ka := fun h => (et_test (ev_ne (d := .lst (stD ps)) (e := .lst []) (ev_var h) (evn_lst (ds := []) ea_nil (by decide)).lst .v .v (pl_stD _ 60) rfl)).to (by
      cases ps with
      | nil => exact absurd rfl h0
      | cons _ _ => rfl)
    have hp5 := tk_ok hp4 (m := 2) (by decide)
    refine q_whenI (fun ro ka => ∃ (fs : List Ln) (p' : Pl) (vk : Option W), ro = [some (.val (.adr a)), some (.val (.int m)), some (.val (.int l)), some (.val (.lst (stD ns))), some (.val (.lst (stD ps))), some (.val (.lst (stD ts))), v, some (.val (.adr b)), vk, none] ∧ ka = [(a, .lst (Pl.ds p')), (b, .lst (rwD fs))] ∧ p'.Ok (n + 83) ∧ FoOk ps ts fs fs.length)
      (et_and1 (hne rfl) (et_test (ev_eqI (ev_take (kr := [(b, .lst [])]) (ev_var rfl) ev_int (hp4.up (by omega)) (by decide) (by decide)) ev_int))) (fun hb nx k => ?_) (fun hb => ⟨[], _, none, rfl, rfl, hp5.up (by omega), List.Sublist.refl _, fun _ h => by cases h⟩) (fun ro2 ka2 ⟨fs, p6, vk, e1, e2, hp6, hfo⟩ => ?_)
    · refine g_forn (ei_range1 (ea1 (ev_min2 (ev_var rfl) (ev_len (ev_var rfl) .vl))) (by split <;> rw [stD_len] at * <;> omega) (by split <;> rw [stD_len] at * <;> omega)) (fun i ro ka => ∃ (fs : List Ln) (vk : Option W), ro = [some (.val (.adr a)), some (.val (.int m)), some (.val (.int l)), some (.val (.lst (stD ns))), some (.val (.lst (stD ps))), some (.val (.lst (stD ts))), v, some (.val (.adr b)), vk, none] ∧ ka = [(a, .lst (Pl.ds (tk p4 2).2)), (b, .lst (rwD fs))] ∧ fs.length = i ∧ FoOk ps ts fs i)
        ⟨[], none, rfl, rfl, rfl, List.Sublist.refl _, fun _ h => by cases h⟩ (fun i ro ka _ => trivial) (fun i w ro2 ka2 ta' hw ⟨fs, vk, e1, e2, hfl, hfo⟩ => ?_) (fun ro2 ka2 ta' ⟨fs, vk, e1, e2, hfl, hfo⟩ hsub => ?_)
      · subst e1 e2
        rw [List.getElem?_map] at hw
        obtain ⟨i', hi', rfl⟩ := Option.map_eq_some_iff.mp hw
        obtain ⟨hi1, hi2⟩ := List.getElem?_eq_some_iff.mp hi'
        rw [List.getElem_range] at hi2
        subst hi2
        rw [List.length_range, stD_len] at hi1
        have hi2 : i < ps.length ∧ (i : Int) < l := by split at hi1 <;> omega
        have hge := hto.ge
        have hi3 : i < ts.length := by omega
        have hL : (0 : Int) < (((stD ps).length : Nat) : Int) := by rw [stD_len]; omega
        have hz1 : 0 ≤ ((i : Int) + 1) % (((stD ps).length : Nat) : Int) := Int.emod_nonneg _ (by omega)
        have hz2 : ((i : Int) + 1) % (((stD ps).length : Nat) : Int) < (ps.length : Int) := by
          have := Int.emod_lt_of_pos ((i : Int) + 1) hL
          rw [stD_len] at this ⊢
          exact this
        have hz3 : (((i : Int) + 1) % (((stD ps).length : Nat) : Int)).toNat < ps.length := by omega
        refine g_app (j0 := 1) (j := 1) (d := rwL (ts[i], ps[i], ps[(((i : Int) + 1) % (((stD ps).length : Nat) : Int)).toNat])) (ev_var rfl) rfl (ev_tup (ds := [.str ts[i], .str ps[i], .str ps[(((i : Int) + 1) % (((stD ps).length : Nat) : Int)).toNat]]) (ea3 (ev_ixV (ev_var rfl) (ev_var rfl) .vl (atI_nat (stD_get (List.getElem?_eq_getElem hi3)))) (ev_ixV (ev_var rfl) (ev_var rfl) .vl (atI_nat (stD_get (List.getElem?_eq_getElem hi2.1)))) (ev_ixV (ev_var rfl) (ev_modI (ev_addI (ev_var rfl) ev_int) (ev_len (ev_var rfl) .vl) hL) .vl (atZ hz1 (stD_get (List.getElem?_eq_getElem hz3))))) (show 3 ≤ 100000 by decide)) rfl (by rw [rwD_len]; omega)
          (g_jp ⟨fs ++ [(ts[i], ps[i], ps[(((i : Int) + 1) % (((stD ps).length : Nat) : Int)).toNat])], _, rfl, by rw [rwD_app]; rfl, by rw [List.length_append, hfl]; rfl, hfo.add (List.getElem?_eq_getElem hi3) (List.getElem_mem _) (List.getElem_mem _)⟩)
      · subst e1 e2
        rw [List.length_map, List.length_range] at hfl hfo
        rw [← hfl] at hfo
        exact fun sg H e => k _ _ ⟨fs, _, _, rfl, rfl, hp5.up (by omega), hfo⟩ sg H (e.held hsub)
    · subst e1 e2
      have hle := hfo.len
      have hto2 := hto.le
      refine q_forn (ei_strs (ss := ts.drop fs.length) ((evn_sl (ev_var rfl) (eo_some (ev_len (ev_var rfl) (.ce 1 rfl))) eo_none .vl).lst.to (congrArg (fun z => W.val (.lst z)) ((cut_from (by omega) (by rw [rwD_len, stD_len]; omega)).trans ?_)))) (fun i ro ka => ∃ (fs' : List Ln) (p' : Pl) (v vk v2 : Option W), ro = [some (.val (.adr a)), some (.val (.int m)), some (.val (.int l)), some (.val (.lst (stD ns))), some (.val (.lst (stD ps))), some (.val (.lst (stD ts))), v, some (.val (.adr b)), vk, v2] ∧ ka = [(a, .lst (Pl.ds p')), (b, .lst (rwD fs'))] ∧ p'.Ok (n + 83 + 3 * i) ∧ FoOk ps ts fs' (fs.length + i))
        ⟨fs, p6, v, vk, none, rfl, rfl, hp6.up (by omega), hfo⟩ (fun i ro ka _ => trivial) (fun i w ro2 ka2 ta' hw ⟨fs', p', v, vk, v2, e1, e2, hp', hfo⟩ => ?_) (fun ro2 ka2 ta' ⟨fs', p', v, vk, v2, e1, e2, hp', hfo⟩ _ => ?_)
      · rw [rwD_len, Int.toNat_natCast]
        unfold stD
        rw [List.map_drop]
      · subst e1 e2
        rw [List.getElem?_map] at hw
        obtain ⟨x, hx, rfl⟩ := Option.map_eq_some_iff.mp hw
        rw [List.getElem?_drop] at hx
        have hi : fs.length + i < ts.length := (List.getElem?_eq_some_iff.mp hx).1
        have hfl' := hfo.len
        have o1 := tk_ok hp' (m := 4) (by decide)
        have hL : (0 : Int) < (((stD ps).length : Nat) : Int) := by rw [stD_len]; omega
        have t2 := tk_lt (tk p' 4).2 hL
        have o2 := tk_ok o1 hL
        have t3 := tk_lt (tk (tk p' 4).2 (((stD ps).length : Nat) : Int)).2 hL
        have o3 := tk_ok o2 hL
        refine g_if (et_and1 (hne rfl) (et_test (ev_gt (ev_take (kr := [(b, .lst (rwD fs'))]) (ev_var rfl) ev_int (hp'.up (by omega)) (by decide) (by decide)) ev_int))) (fun hb => ?_) (fun hb => g_next (g_jp ⟨fs', _, _, _, _, rfl, rfl, o1.up (by push_cast; omega), hfo.skip⟩))
        have hu2 : (tk (tk p' 4).2 (((stD ps).length : Nat) : Int)).1.toNat < ps.length := by have := t2.2; rw [stD_len] at this ⊢; omega
        have hu3 : (tk (tk (tk p' 4).2 (((stD ps).length : Nat) : Int)).2 (((stD ps).length : Nat) : Int)).1.toNat < ps.length := by have := t3.2; rw [stD_len] at this ⊢; omega
        have hL2 : (((stD ps).length : Nat) : Int) ≤ 100000000 := by rw [stD_len]; omega
        refine q_asg (ev_ixV (ev_var rfl) (ev_take (kr := [(b, .lst (rwD fs'))]) (ev_var rfl) (ev_len (ev_var rfl) .vl) (o1.up (by omega)) hL hL2) .vl (atZ t2.1 (stD_get (List.getElem?_eq_getElem hu2)))) ?_
        refine g_app (j0 := 1) (j := 1) (d := rwL (x, ps[(tk (tk p' 4).2 (((stD ps).length : Nat) : Int)).1.toNat], ps[(tk (tk (tk p' 4).2 (((stD ps).length : Nat) : Int)).2 (((stD ps).length : Nat) : Int)).1.toNat])) (ev_var rfl) rfl (ev_tup (ds := [.str x, .str ps[(tk (tk p' 4).2 (((stD ps).length : Nat) : Int)).1.toNat], .str ps[(tk (tk (tk p' 4).2 (((stD ps).length : Nat) : Int)).2 (((stD ps).length : Nat) : Int)).1.toNat]]) (ea3 (ev_var rfl) (ev_var rfl) (ev_ixV (ev_var rfl) (ev_take (kr := [(b, .lst (rwD fs'))]) (ev_var rfl) (ev_len (ev_var rfl) .vl) (o2.up (by omega)) hL hL2) .vl (atZ t3.1 (stD_get (List.getElem?_eq_getElem hu3))))) (show 3 ≤ 100000 by decide)) rfl (by rw [rwD_len]; omega)
          (g_jp ⟨fs' ++ [(x, ps[(tk (tk p' 4).2 (((stD ps).length : Nat) : Int)).1.toNat], ps[(tk (tk (tk p' 4).2 (((stD ps).length : Nat) : Int)).2 (((stD ps).length : Nat) : Int)).1.toNat])], _, _, _, _, rfl, ?_, o3.up (by push_cast; omega), hfo.add hx (List.getElem_mem _) (List.getElem_mem _)⟩)
        rw [rwD_app]
        rfl
      · subst e1 e2
        rw [List.length_map, List.length_drop] at hp' hfo
        have hfl := hfo.len
        refine Gp.frz (i := 7) (j := 1) rfl rfl ?_
        refine g_retR hR (evnr_l2 (ev_var rfl) (evr_call (k1 := [(a, .lst (Pl.ds p'))]) [] (ea2 (ev_var rfl) (ev_var rfl)) ⟨_, _, rfl, a, p', n + 170, rwD fs', rfl, rfl, rfl, hp'.up (by omega), by omega, by omega, by rw [rwD_len]; omega, rfl⟩ (fun o k ⟨es, p', h, _⟩ => ⟨_, h⟩)) (R := fun nd k => ∃ ds, nd = .lst [.lst (stD ps), .lst ds] ∧ ∃ p', k = [(a, .lst (Pl.ds p'))] ∧ p'.Ok (n + 170 + (rwD fs').length) ∧ ds.Perm (rwD fs')) fun w k ⟨d, k2, ⟨es, p', e1, e2, e3, e4⟩, e5, e6⟩ => ?_) (fun nd k ⟨ds, e1, p2, e2, e3, e4⟩ => ?_)
        · cases e1
          subst e2 e5 e6
          exact ⟨_, rfl, es, rfl, p', rfl, e3, e4⟩
        · obtain ⟨es, rfl, hpm⟩ := rwD_perm e4
          rw [rwD_len] at e3
          have hsub := hfo.sub.trans (List.take_sublist _ _)
          exact ⟨_, e1, ps, es, p2, rfl, e2, e3.up (by omega), ⟨hpn, hpd, fun r hr => hto.nm _ (hsub.mem (List.mem_map.mpr ⟨r, hpm.mem_iff.mp hr, rfl⟩)), (lnN_perm hpm).nodup_iff.mpr (hsub.nodup hto.nd), fun r hr => hfo.st r (hpm.mem_iff.mp hr), by omega, by rw [hpm.length_eq]; omega⟩, hpl.1, by rw [hpm.length_eq]; omega⟩
end
def ct_law_ends (K : PySem.W.Frag) : Ct := Ct1 fun s ka out => ∃ ps es, s = .val (PtD ps es) ∧ (lnN es).Nodup ∧ es.length ≤ 50000 ∧ ka = [] ∧ out = Rt (.dic (enD es)) []
section
variable {P : Program} {w : World} {K : PySem.W.Frag} {mg : Str → Option Value} {base : Heap}
theorem ok_law_ends (T : Tx K mg) : Fn P w K mg base 4 (He.ga K "_law_ends") ["_law_parts"] (ct_law_ends K) := by
  obtain ⟨fd, F⟩ := T.d_law_ends
  refine fn_ok F sc_law_ends (fun _ _ _ _ _ _ us hl => match us, hl with | [_], _ => rfl) ct1_len (fun cdv A outer s H E hr => ⟨_, (pss_cons (ps_set (i := 1) sc_law_ends.nd rfl (by first | exact Or.inl rfl | exact Or.inr rfl) pe_dnewK)
      (pss_cons (ps_for (passes_of rfl) rfl (pi_seq (pe_ix ix_seq (pv 0) pe_int fun _ _ => rfl)) (pg_tup rfl (pgs_cons (pg_name (i := 2) sc_law_ends.nd rfl (by first | exact Or.inl rfl | exact Or.inr rfl)) (pgs_cons (pg_name (i := 3) sc_law_ends.nd rfl (by first | exact Or.inl rfl | exact Or.inr rfl)) (pgs_cons (pg_name (i := 4) sc_law_ends.nd rfl (by first | exact Or.inl rfl | exact Or.inr rfl)) pgs_nil)))) (pss_one (ps_dput (hu1 hr) (pv 1) (pv 2) (pe_tup (pa_cons (pv 3) (pa_cons (pv 4) pa_nil))) rfl)))
      (pss_one (ps_ret (pv 1))))), fun ws ka out B F0 Q hC hR hX => ?_⟩)
  obtain ⟨s, rfl, ps, es, rfl, hn, hl, rfl, rfl⟩ := hC
  refine q_asgN evn_dnew (fun a => ?_)
  refine q_forT (ei_map (ts := es) (f := rwL) (ev_ixV (ev_var rfl) ev_int .vl (atI_nat (j := 1) rfl))) (fun i ro ka => ∃ v1 v2 v3, ro = [some (.val (PtD ps es)), some (.val (.adr a)), v1, v2, v3] ∧ ka = [(a, .dic (enD (es.take i)))]) ⟨none, none, none, rfl, rfl⟩ (fun i ro ka _ => trivial) (fun i w ro2 ka2 ta' hw ⟨v1, v2, v3, e1, e2⟩ => ?_) (fun ro2 ka2 ta' ⟨v1, v2, v3, e1, e2⟩ _ => ?_)
  · subst e1 e2
    rw [List.getElem?_map] at hw
    obtain ⟨r, hr2, rfl⟩ := Option.map_eq_some_iff.mp hw
    refine ⟨_, at_t3, g_dput (j := 0) (ev_tup (ds := [.str r.2.1, .str r.2.2]) (ea2 (ev_var rfl) (ev_var rfl)) (show 2 ≤ 100000 by decide)) (ev_var rfl) (ev_var rfl) rfl ?_ (g_jp ⟨_, _, _, rfl, ?_⟩)⟩
    · rw [enD_len, List.length_take]
      omega
    · rw [← enD_take hn hr2]
      rfl
  · subst e1 e2
    rw [List.length_map, List.take_length]
    exact Gp.frzK (kr := []) (i := 1) rfl (List.Perm.refl _) (g_ret hR (ev_var rfl) ⟨rfl, rfl⟩)
end
/-! ### what a post reaches -/
inductive Rch (es : List Ln) (p : Str) : Str → Prop where
  | refl : Rch es p p
  | step {x : Str} {r : Ln} (h : Rch es p x) (m : r ∈ es) (e : r.2.1 = x) : Rch es p r.2.2
/-- the lanes ls lead from p to q -/
def Wk (es : List Ln) (p : Str) : List Str → Str → Prop
  | [], q => p = q
  | l :: ls, q => ∃ r ∈ es, r.1 = l ∧ r.2.1 = p ∧ Wk es r.2.2 ls q
theorem Wk.snoc {es : List Ln} {r : Ln} (m : r ∈ es) : ∀ {ls : List Str} {p : Str}, Wk es p ls r.2.1 → Wk es p (ls ++ [r.1]) r.2.2
  | [], p, h => ⟨r, m, rfl, (show p = r.2.1 from h).symm, rfl⟩
  | l :: ls, p, ⟨r', m', e1, e2, h⟩ => ⟨r', m', e1, e2, Wk.snoc m h⟩
theorem Wk.rch {es : List Ln} {s : Str} : ∀ {ls : List Str} {p q : Str}, Rch es s p → Wk es p ls q → Rch es s q
  | [], p, q, a, h => (show p = q from h) ▸ a
  | l :: ls, p, q, a, ⟨r, m, _, e2, h⟩ => Wk.rch (Rch.step (x := p) a m e2) h
/-- the way that wy has to p -/
def lsOf (wy : List (Str × List Str)) (p : Str) : List Str := ((wy.find? fun e => decide (e.1 = p)).map (·.2)).getD []
/-- one lane looked at from cur -/
def wStp (cur : Str) (wy : List (Str × List Str)) (r : Ln) : List (Str × List Str) := if r.2.1 = cur ∧ ¬ r.2.2 ∈ keysT wy then wy ++ [(r.2.2, lsOf wy cur ++ [r.1])] else wy
/-- the search: n posts may still be looked at, the next one is the a-th, its first j lanes are done -/
def bfsJ (es : List Ln) : Nat → Nat → Nat → List (Str × List Str) → List (Str × List Str)
  | 0, _, _, wy => wy
  | n + 1, a, j, wy => match (keysT wy)[a]? with
    | some cur => bfsJ es n (a + 1) 0 ((es.drop j).foldl (wStp cur) wy)
    | none => wy
def wyAll (ps : List Str) (es : List Ln) (s : Str) : List (Str × List Str) := bfsJ es ps.length 0 0 [(s, [])]
theorem lsOf_of {wy : List (Str × List Str)} (hn : (keysT wy).Nodup) {p : Str} {ls : List Str} (h : (p, ls) ∈ wy) : lsOf wy p = ls := by
  unfold lsOf
  induction wy with
  | nil => cases h
  | cons x l ih =>
    have hn2 := List.nodup_cons.mp hn
    rw [List.find?_cons]
    rcases List.mem_cons.mp h with e | h
    · rw [← e, decide_eq_true rfl]
      rfl
    · have ne : ¬ x.1 = p := fun z => hn2.1 (by show x.1 ∈ _; rw [z]; exact List.mem_map.mpr ⟨_, h, rfl⟩)
      rw [decide_eq_false ne]
      exact ih hn2.2 h
theorem bfsJ_skip {es : List Ln} {n a j : Nat} {wy : List (Str × List Str)} {r : Ln} (hr : es[j]? = some r) (h : ∀ cur, (keysT wy)[a]? = some cur → wStp cur wy r = wy) : bfsJ es n a (j + 1) wy = bfsJ es n a j wy := by
  cases n with
  | zero => rfl
  | succ n =>
    unfold bfsJ
    cases hc : (keysT wy)[a]? with
    | none => rfl
    | some cur =>
      have e : es.drop j = r :: es.drop (j + 1) := by
        obtain ⟨hj, rfl⟩ := List.getElem?_eq_some_iff.mp hr
        rw [List.getElem_cons_drop]
      dsimp only
      rw [e, List.foldl_cons, h cur hc]
theorem bfsJ_add {es : List Ln} {n a j : Nat} {wy : List (Str × List Str)} {r : Ln} {cur : Str} (hr : es[j]? = some r) (hc : (keysT wy)[a]? = some cur) (h1 : r.2.1 = cur) (h2 : ¬ r.2.2 ∈ keysT wy) : bfsJ es n a (j + 1) (wy ++ [(r.2.2, lsOf wy cur ++ [r.1])]) = bfsJ es n a j wy ∨ n = 0 := by
  cases n with
  | zero => exact .inr rfl
  | succ n =>
    refine .inl ?_
    have e : es.drop j = r :: es.drop (j + 1) := by
      obtain ⟨hj, rfl⟩ := List.getElem?_eq_some_iff.mp hr
      rw [List.getElem_cons_drop]
    have hlt := (List.getElem?_eq_some_iff.mp hc).1
    have hc2 : (keysT (wy ++ [(r.2.2, lsOf wy cur ++ [r.1])]))[a]? = some cur := by
      rw [keys_app, List.getElem?_append_left hlt]
      exact hc
    unfold bfsJ
    rw [hc, hc2]
    dsimp only
    rw [e, List.foldl_cons]
    have : wStp cur wy r = wy ++ [(r.2.2, lsOf wy cur ++ [r.1])] := if_pos ⟨h1, h2⟩
    rw [this]
theorem bfsJ_next {es : List Ln} {n a : Nat} {wy : List (Str × List Str)} {cur : Str} (hc : (keysT wy)[a]? = some cur) : bfsJ es (n + 1) a es.length wy = bfsJ es n (a + 1) 0 wy := by
  rw [bfsJ, hc]
  dsimp only
  rw [List.drop_length]
  rfl
theorem bfsJ_end {es : List Ln} {n a j : Nat} {wy : List (Str × List Str)} (hc : (keysT wy)[a]? = none) : bfsJ es n a j wy = wy := by
  cases n with
  | zero => rfl
  | succ n => rw [bfsJ, hc]
def wyD (wy : List (Str × List Str)) : List (Key × D) := tbD (fun ls => .lst (stD ls)) wy
/-- wy: of each post that s reaches a walk from s to it -/
structure WyOk (ps : List Str) (es : List Ln) (s : Str) (wy : List (Str × List Str)) : Prop where
  eq : wy = wyAll ps es s
  nd : (keysT wy).Nodup
  wk : ∀ p ls, (p, ls) ∈ wy → Wk es s ls p ∧ ls.length ≤ wy.length
  all : ∀ p, p ∈ keysT wy ↔ Rch es s p
/-- on the way: the first at ones are done, of the next one the first j lanes -/
structure WyIn (ps : List Str) (es : List Ln) (s : Str) (at' j : Nat) (wy : List (Str × List Str)) : Prop where
  nd : (keysT wy).Nodup
  sub : ∀ p ∈ keysT wy, p ∈ ps
  st : s ∈ keysT wy
  wk : ∀ p ls, (p, ls) ∈ wy → Wk es s ls p ∧ ls.length ≤ wy.length
  le : at' ≤ wy.length
  done : ∀ i, i < at' → ∀ p, (keysT wy)[i]? = some p → ∀ r ∈ es, r.2.1 = p → r.2.2 ∈ keysT wy
  cur : ∀ p, (keysT wy)[at']? = some p → ∀ i r, i < j → es[i]? = some r → r.2.1 = p → r.2.2 ∈ keysT wy
  run : bfsJ es (ps.length - at') at' j wy = wyAll ps es s
theorem sub_len : ∀ {xs ys : List Str}, xs.Nodup → (∀ x ∈ xs, x ∈ ys) → xs.length ≤ ys.length
  | [], _, _, _ => Nat.zero_le _
  | x :: xs, ys, h, s => by
    have h2 := List.nodup_cons.mp h
    have hx := s x List.mem_cons_self
    have := sub_len (xs := xs) (ys := ys.erase x) h2.2 fun y hy => (List.mem_erase_of_ne (fun z : y = x => h2.1 (by rw [← z]; exact hy))).mpr (s y (List.mem_cons_of_mem _ hy))
    rw [List.length_erase_of_mem hx] at this
    have : 0 < ys.length := List.length_pos_of_mem hx
    rw [List.length_cons]
    omega
theorem WyIn.len {ps : List Str} {es : List Ln} {s : Str} {a j : Nat} {wy : List (Str × List Str)} (h : WyIn ps es s a j wy) : wy.length ≤ ps.length := by
  have := sub_len h.nd h.sub
  rwa [List.length_map] at this
theorem keys_at {β : Type} {wy : List (Str × β)} {i : Nat} {p : Str} (h : (keysT wy)[i]? = some p) : ∃ v, wy[i]? = some (p, v) := by
  rw [List.getElem?_map] at h
  obtain ⟨q, h1, h2⟩ := Option.map_eq_some_iff.mp h
  exact ⟨q.2, by rw [h1, ← h2]⟩
/-- a lane that leads to a post there already, or that starts elsewhere -/
theorem WyIn.skip {ps : List Str} {es : List Ln} {s : Str} {a j : Nat} {wy : List (Str × List Str)} (h : WyIn ps es s a j wy) {r : Ln} (hr : es[j]? = some r) (c : ∀ p, (keysT wy)[a]? = some p → r.2.1 = p → r.2.2 ∈ keysT wy) : WyIn ps es s a (j + 1) wy :=
  ⟨h.nd, h.sub, h.st, h.wk, h.le, h.done, fun p hp i r' hi hr' e => by
    by_cases q : i = j
    · subst q
      rw [hr] at hr'
      cases hr'
      exact c p hp e
    · exact h.cur p hp i r' (by omega) hr' e, (bfsJ_skip hr fun cur hc => if_neg fun z => z.2 (c cur hc z.1)).trans h.run⟩
/-- a lane that leads to a new post -/
theorem WyIn.add {ps : List Str} {es : List Ln} {s : Str} {a j : Nat} {wy : List (Str × List Str)} (h : WyIn ps es s a j wy) {r : Ln} (hr : es[j]? = some r) {ls : List Str} (hf : (r.2.1, ls) ∈ wy) (hcu : (keysT wy)[a]? = some r.2.1) (hn : ¬ r.2.2 ∈ keysT wy) (hp : r.2.2 ∈ ps) (hl : a < wy.length) : WyIn ps es s a (j + 1) (wy ++ [(r.2.2, ls ++ [r.1])]) := by
  have m := List.mem_of_getElem? hr
  have hk : keysT (wy ++ [(r.2.2, ls ++ [r.1])]) = keysT wy ++ [r.2.2] := keys_app _ _
  have up : ∀ {x}, x ∈ keysT wy → x ∈ keysT (wy ++ [(r.2.2, ls ++ [r.1])]) := fun hx => by rw [hk]; exact List.mem_append_left _ hx
  refine ⟨?_, fun p q => ?_, up h.st, fun p ms q => ?_, ?_, fun i hi p e r' m' e' => ?_, fun p e i r' hi hr' e' => ?_, ?_⟩
  · rw [hk, List.nodup_append]
    refine ⟨h.nd, List.nodup_cons.mpr ⟨List.not_mem_nil, List.nodup_nil⟩, fun x hx y hy z => hn ?_⟩
    rw [List.mem_singleton.mp hy] at z
    rw [← z]; exact hx
  · rw [hk] at q
    rcases List.mem_append.mp q with q | q
    · exact h.sub p q
    · rw [List.mem_singleton.mp q]; exact hp
  · rw [List.length_append, List.length_singleton]
    rcases List.mem_append.mp q with q | q
    · have := h.wk p ms q
      exact ⟨this.1, by omega⟩
    · have q' := List.mem_singleton.mp q
      cases q'
      have := h.wk _ _ hf
      exact ⟨this.1.snoc m, by rw [List.length_append, List.length_singleton]; omega⟩
  · rw [List.length_append]; have := h.le; omega
  · rw [hk, List.getElem?_append_left (by rw [List.length_map]; have := h.le; omega)] at e
    exact up (h.done i hi p e r' m' e')
  · rw [hk, List.getElem?_append_left (by rw [List.length_map]; exact hl)] at e
    by_cases q : i = j
    · subst q
      rw [hr] at hr'
      cases hr'
      rw [hk]
      exact List.mem_append_right _ (List.mem_singleton.mpr rfl)
    · exact up (h.cur p e i r' (by omega) hr' e')
  · have hw := h.len
    have hr3 := bfsJ_add (n := ps.length - a) hr hcu rfl hn
    rw [lsOf_of h.nd hf] at hr3
    exact (hr3.resolve_right (by omega)).trans h.run
theorem WyIn.next {ps : List Str} {es : List Ln} {s : Str} {a : Nat} {wy : List (Str × List Str)} (h : WyIn ps es s a es.length wy) (hl : a < wy.length) : WyIn ps es s (a + 1) 0 wy :=
  ⟨h.nd, h.sub, h.st, h.wk, hl, fun i hi p e r m e' => by
    by_cases q : i = a
    · subst q
      obtain ⟨k, hk, rfl⟩ := List.mem_iff_getElem.mp m
      exact h.cur p e k _ hk (List.getElem?_eq_getElem hk) e'
    · exact h.done i (by omega) p e r m e', fun _ _ _ _ z => absurd z (Nat.not_lt_zero _), by
    have hw := h.len
    have e1 : ps.length - a = ps.length - (a + 1) + 1 := by omega
    have h2 := h.run
    rw [e1, bfsJ_next (List.getElem?_eq_getElem (by rw [List.length_map]; exact hl))] at h2
    exact h2⟩
theorem WyIn.fin {ps : List Str} {es : List Ln} {s : Str} {j : Nat} {wy : List (Str × List Str)} (h : WyIn ps es s wy.length j wy) : WyOk ps es s wy := by
  refine ⟨(bfsJ_end (List.getElem?_eq_none (by rw [List.length_map]; exact Nat.le_refl _))).symm.trans h.run, h.nd, h.wk, fun p => ⟨fun q => ?_, fun q => ?_⟩⟩
  · obtain ⟨ls, hv⟩ := key_has q
    exact (h.wk _ _ hv).1.rch .refl
  · induction q with
    | refl => exact h.st
    | @step x r _ m e ih =>
      obtain ⟨i, hi⟩ := List.mem_iff_getElem?.mp ih
      have hlt := (List.getElem?_eq_some_iff.mp hi).1
      rw [List.length_map] at hlt
      exact h.done i hlt x hi r m e
theorem WyIn.ini {ps : List Str} {es : List Ln} {s : Str} (h : s ∈ ps) : WyIn ps es s 0 0 [(s, [])] := by
  refine ⟨List.nodup_cons.mpr ⟨List.not_mem_nil, List.nodup_nil⟩, fun p q => ?_, List.mem_singleton.mpr rfl, fun p ls q => ?_, Nat.zero_le _, fun i hi => absurd hi (Nat.not_lt_zero _), fun _ _ _ _ z => absurd z (Nat.not_lt_zero _), rfl⟩
  · rw [List.mem_singleton.mp q]; exact h
  · cases List.mem_singleton.mp q
    exact ⟨rfl, Nat.zero_le _⟩
def ct_law_ways (K : PySem.W.Frag) : Ct := Ct2 fun a b ka out => ∃ ps es s, a = .val (PtD ps es) ∧ b = .val (.str s) ∧ s ∈ ps ∧ (∀ r ∈ es, r.2.2 ∈ ps) ∧ ps.length ≤ 1000 ∧ es.length ≤ 50000 ∧ ka = [] ∧ out = fun o k => ∃ wy, o = .ret (.dic (wyD wy)) ∧ k = [] ∧ WyOk ps es s wy
section
variable {P : Program} {w : World} {K : PySem.W.Frag} {mg : Str → Option Value} {base : Heap}
theorem ok_law_ways (T : Tx K mg) : Fn P w K mg base 4 (He.ga K "_law_ways") ["_law_parts", "_law_start"] (ct_law_ways K) := by
  obtain ⟨fd, F⟩ := T.d_law_ways
  refine fn_ok F sc_law_ways (fun _ _ _ _ _ _ us hl => match us, hl with | [_, _], _ => rfl) ct2_len (fun cdv A outer s H E hr => ⟨_, (pss_cons (ps_set (i := 2) sc_law_ways.nd rfl (by first | exact Or.inl rfl | exact Or.inr rfl) (pe_disp (pps_cons (pv 1) (pe_lst pa_nil) pps_nil) rfl rfl (by simp) (by decide)))
      (pss_cons (ps_set (i := 3) sc_law_ways.nd rfl (by first | exact Or.inl rfl | exact Or.inr rfl) (pe_lst (pa_cons (pv 1) pa_nil)))
      (pss_cons (ps_set (i := 4) sc_law_ways.nd rfl (by first | exact Or.inl rfl | exact Or.inr rfl) pe_int)
      (pss_cons (ps_while (passes_of rfl) (pt_cmpR op_lt (pv 4) (pe_callB call_lenU rfl T.n_len (by decide +kernel) (pa_cons (pv 3) pa_nil)) (nomark _)) (pss_cons (ps_for (passes_of rfl) rfl (pi_seq (pe_ix ix_seq (pv 0) pe_int fun _ _ => rfl)) (pg_tup rfl (pgs_cons (pg_name (i := 5) sc_law_ways.nd rfl (by first | exact Or.inl rfl | exact Or.inr rfl)) (pgs_cons (pg_name (i := 6) sc_law_ways.nd rfl (by first | exact Or.inl rfl | exact Or.inr rfl)) (pgs_cons (pg_name (i := 7) sc_law_ways.nd rfl (by first | exact Or.inl rfl | exact Or.inr rfl)) pgs_nil)))) (pss_one (ps_if (PW.pt (pw_and (pt_cmpR (op_eqP (by have := (hr).units; exact this)) (pv 6) (pe_ix ix_seq (pv 3) (pv 4) fun _ _ => rfl) (nomark _)) (pw_and1 (pt_cmp (pc_dnotin (hu1 hr) (pv 7) (pv 2)) (by with_unfolding_all rfl)))))
      (pss_cons (ps_dput (hu1 hr) (pv 2) (pv 7) (pe_op op_addU (pe_dget (hu1 hr) (pv 2) (pv 6) fun _ _ => rfl) (pe_lst (pa_cons (pv 5) pa_nil))) rfl)
      (pss_one (ps_expr (pe_bm PySem.F.plainAttrs_list PySem.F.slot_list_append PySem.F.type_list_append mt_append (pv 3) (pa_cons (pv 7) pa_nil)))))
      pss_nil)))
      (pss_one (ps_set (i := 4) sc_law_ways.nd rfl (by first | exact Or.inl rfl | exact Or.inr rfl) (pe_op op_addU (pv 4) pe_int)))))
      (pss_one (ps_ret (pv 2))))))), fun ws ka out B F0 Q hC hR hX => ?_⟩)
  obtain ⟨a, b, rfl, ps, es, s, rfl, rfl, hs, hps, hl, hel, rfl, rfl⟩ := hC
  refine q_asgN (evn_disp1 (d := .lst []) (ev_var rfl) (evn_lst (ds := []) ea_nil (show 0 ≤ 100000 by decide)).lst) (fun a => ?_)
  refine q_asgN (evn_lst (ds := [.str s]) (ea1 (ev_var rfl)) (show 1 ≤ 100000 by decide)) (fun b => ?_)
  refine q_asg ev_int ?_
  refine q_while (fun m ro ka => ∃ (wy : List (Str × List Str)) (n : Nat) (v1 v2 v3 : Option W), ro = [some (.val (PtD ps es)), some (.val (.str s)), some (.val (.adr a)), some (.val (.adr b)), some (.val (.int n)), v1, v2, v3] ∧ ka = [(a, .dic (wyD wy)), (b, .lst (stD (keysT wy)))] ∧ WyIn ps es s n 0 wy ∧ m = ps.length - n)
    ps.length ⟨[(s, [])], 0, none, none, none, rfl, rfl, .ini hs, rfl⟩ (fun m ro2 ka2 ⟨wy, n, v1, v2, v3, e1, e2, hw, hm⟩ => ?_)
  subst e1 e2
  refine ⟨_, _, et_test (ev_lt (ev_var rfl) (ev_len (ev_var rfl) (.ce 1 rfl))), fun hb => ?_, fun hb => ?_⟩
  · rw [decide_eq_true_eq, stD_len, List.length_map] at hb
    have hlt : n < wy.length := by omega
    obtain ⟨cur, hcur⟩ : ∃ c, (keysT wy)[n]? = some c := ⟨_, List.getElem?_eq_getElem (by rw [List.length_map]; exact hlt)⟩
    refine q_forT (ei_map (ts := es) (f := rwL) (ev_ixV (ev_var rfl) ev_int .vl (atI_nat (j := 1) rfl))) (fun i ro ka => ∃ wy v1 v2 v3, ro = [some (.val (PtD ps es)), some (.val (.str s)), some (.val (.adr a)), some (.val (.adr b)), some (.val (.int n)), v1, v2, v3] ∧ ka = [(a, .dic (wyD wy)), (b, .lst (stD (keysT wy)))] ∧ WyIn ps es s n i wy ∧ n < wy.length ∧ (keysT wy)[n]? = some cur)
      ⟨wy, v1, v2, v3, rfl, rfl, hw, hlt, hcur⟩ (fun i ro ka _ => trivial) (fun i w ro2 ka2 ta' hw2 ⟨wy, v1, v2, v3, e1, e2, hw, hlt, hcur⟩ => ?_) (fun ro2 ka2 ta' ⟨wy, v1, v2, v3, e1, e2, hw, hlt, hcur⟩ hsub => ?_)
    · subst e1 e2
      rw [List.getElem?_map] at hw2
      obtain ⟨r, hr2, rfl⟩ := Option.map_eq_some_iff.mp hw2
      have hm2 := List.mem_of_getElem? hr2
      refine ⟨_, at_t3, g_if (et_and (et_test (ev_eqS (ev_var rfl) (ev_ixV (ev_var rfl) (ev_var rfl) (.ce 1 rfl) (atI_nat (stD_get hcur))))) fun _ => et_B ((ev_dni (ev_var rfl) (ev_var rfl) (.ce 0 rfl)).to (by rw [show wyD wy = tbD _ wy from rfl, tb_in]))) (fun hb => ?_) (fun hb => g_next (g_jp ⟨wy, _, _, _, rfl, rfl, hw.skip hr2 fun p hp e => ?_, hlt, hcur⟩))⟩
      · rw [Bool.and_eq_true, beq_iff_eq, Bool.not_eq_true', decide_eq_false_iff_not] at hb
        obtain ⟨h1, h2⟩ := hb
        have hm3 : r.2.1 ∈ keysT wy := by rw [h1]; exact List.mem_of_getElem? hcur
        obtain ⟨ls, hls⟩ := key_has hm3
        have hb2 : wy.length < 1001 := by have := hw.len; omega
        have hll := (hw.wk _ _ hls).2
        refine q_dput (j := 0) (d := .lst (stD (ls ++ [r.1]))) ((evn_op (ev_dgetV (d := .lst (stD ls)) (ev_var rfl) (ev_var rfl) (.ce 0 rfl) (tb_get hw.nd hls)) (evn_lst (ds := [.str r.1]) (ea1 (ev_var rfl)) (show 1 ≤ 100000 by decide)).lst (rvn_cat (b1 := false) (b2 := false) .vl .vl (by rw [stD_len, List.length_singleton]; omega))).lst.to (congrArg (fun z => W.val (.lst z)) (stD_app ls [r.1]))) (ev_var rfl) (ev_var rfl) rfl (by rw [show wyD wy = tbD _ wy from rfl, tbD_len]; omega) ?_
        refine g_app (j0 := 1) (j := 1) (d := .str r.2.2) (ev_var rfl) rfl (ev_var rfl) rfl (by rw [stD_len, List.length_map]; omega) (g_jp ⟨wy ++ [(r.2.2, ls ++ [r.1])], _, _, _, rfl, ?_, hw.add hr2 hls (h1 ▸ hcur) h2 (hps r hm2) hlt, by rw [List.length_append]; omega, ?_⟩)
        · have e5 : putT (wyD wy) (.inr r.2.2) (.lst (stD (ls ++ [r.1]))) = wyD (wy ++ [(r.2.2, ls ++ [r.1])]) := tb_put (f := fun ls => .lst (stD ls)) h2
          have e6 : stD (keysT (wy ++ [(r.2.2, ls ++ [r.1])])) = stD (keysT wy) ++ [.str r.2.2] := by rw [keys_app, ← stD_app]; rfl
          rw [e6, ← e5]
          rfl
        · rw [keys_app, List.getElem?_append_left (by rw [List.length_map]; exact hlt)]
          exact hcur
      · rw [hcur] at hp
        cases hp
        rw [Bool.and_eq_false_iff, beq_eq_false_iff_ne, Bool.not_eq_false', decide_eq_true_eq] at hb
        rcases hb with hb | hb
        · exact absurd e hb
        · exact hb
    · subst e1 e2
      rw [List.length_map] at hw
      have hb2 : wy.length ≤ ps.length := hw.len
      exact g_asg (ev_addI (ev_var rfl) ev_int) (g_jpH hsub ⟨ps.length - (n + 1), by omega, wy, n + 1, _, _, _, rfl, rfl, hw.next hlt, rfl⟩)
  · rw [decide_eq_false_iff_not, stD_len, List.length_map] at hb
    have hle := hw.le
    have hn : n = wy.length := by omega
    subst hn
    exact Gp.frzK (kr := [(b, .lst (stD (keysT wy)))]) (i := 2) rfl (List.Perm.swap _ _ _) (Gp.less (k1 := []) (g_ret hR (ev_var rfl) ⟨wy, rfl, rfl, hw.fin⟩) (List.nil_sublist _))
end
/-- the search only adds at the end -/
theorem wStp_pre (cur : Str) (wy : List (Str × List Str)) (r : Ln) : ∃ zs, wStp cur wy r = wy ++ zs := by
  unfold wStp
  split
  · exact ⟨_, rfl⟩
  · exact ⟨[], (List.append_nil _).symm⟩
theorem wFold_pre (cur : Str) : ∀ (es : List Ln) (wy : List (Str × List Str)), ∃ zs, es.foldl (wStp cur) wy = wy ++ zs
  | [], wy => ⟨[], (List.append_nil _).symm⟩
  | r :: es, wy => by
    obtain ⟨z1, e1⟩ := wStp_pre cur wy r
    obtain ⟨z2, e2⟩ := wFold_pre cur es (wStp cur wy r)
    exact ⟨z1 ++ z2, by rw [List.foldl_cons, e2, e1, List.append_assoc]⟩
theorem bfsJ_pre (es : List Ln) : ∀ (n a j : Nat) (wy : List (Str × List Str)), ∃ zs, bfsJ es n a j wy = wy ++ zs
  | 0, _, _, wy => ⟨[], (List.append_nil _).symm⟩
  | n + 1, a, j, wy => by
    rw [bfsJ]
    cases (keysT wy)[a]? with
    | none => exact ⟨[], (List.append_nil _).symm⟩
    | some cur =>
      dsimp only
      obtain ⟨z1, e1⟩ := wFold_pre cur (es.drop j) wy
      obtain ⟨z2, e2⟩ := bfsJ_pre es n (a + 1) 0 ((es.drop j).foldl (wStp cur) wy)
      exact ⟨z1 ++ z2, by rw [e2, e1, List.append_assoc]⟩
theorem wy_stays {wy zs : List (Str × List Str)} {s : Str} (h : s ∈ keysT wy) : getD? (wyD (wy ++ zs)) s = getD? (wyD wy) s := by
  have hs : (getT (wyD wy) (.inr s)).isSome = true := by
    rw [show wyD wy = tbD _ wy from rfl, tb_in]
    exact decide_eq_true h
  have e : wyD (wy ++ zs) = wyD wy ++ wyD zs := tbD_app _ _
  unfold getD? getT at *
  rw [e, List.find?_append]
  rw [Option.isSome_map] at hs
  obtain ⟨x, hx⟩ := Option.isSome_iff_exists.mp hs
  rw [hx]
  rfl
def ct_shortest_way (K : PySem.W.Frag) : Ct := Ct3 fun a b c ka out => ∃ ps es s q, a = .val (.dic (enD es)) ∧ b = .val (.str s) ∧ c = .val (.str q) ∧ s ∈ ps ∧ (∀ r ∈ es, r.2.2 ∈ ps) ∧ (lnN es).Nodup ∧ ps.length ≤ 1000 ∧ es.length ≤ 50000 ∧ ka = [] ∧ out = Rt (getD? (wyD (wyAll ps es s)) q) []
section
variable {P : Program} {w : World} {K : PySem.W.Frag} {mg : Str → Option Value} {base : Heap}
theorem ok_shortest_way (T : Tx K mg) : Fn P w K mg base 4 (He.ga K "shortest_way") ["ends_by_lane", "first", "second"] (ct_shortest_way K) := by
  obtain ⟨fd, F⟩ := T.d_shortest_way
  refine fn_ok F sc_shortest_way (fun _ _ _ _ _ _ us hl => match us, hl with | [_, _, _], _ => rfl) ct3_len (fun cdv A outer s H E hr => ⟨_, (pss_cons (ps_set (i := 3) sc_shortest_way.nd rfl (by first | exact Or.inl rfl | exact Or.inr rfl) (pe_disp (pps_cons (pv 1) (pe_lst pa_nil) pps_nil) rfl rfl (by simp) (by decide)))
      (pss_cons (ps_set (i := 4) sc_shortest_way.nd rfl (by first | exact Or.inl rfl | exact Or.inr rfl) (pe_lst (pa_cons (pv 1) pa_nil)))
      (pss_cons (ps_set (i := 5) sc_shortest_way.nd rfl (by first | exact Or.inl rfl | exact Or.inr rfl) pe_int)
      (pss_cons (ps_while (passes_of rfl) (PW.pt (pw_and (pt_cmpR op_lt (pv 5) (pe_callB call_lenU rfl T.n_len (by decide +kernel) (pa_cons (pv 4) pa_nil)) (nomark _)) (pw_and1 (pt_cmp (pc_dnotin (hu1 hr) (pv 2) (pv 3)) (by with_unfolding_all rfl))))) (pss_cons (ps_lkS (ps_for (passes_of rfl) rfl (pi_keys (pv 0)) (pg_name (i := 6) sc_shortest_way.nd rfl (by first | exact Or.inl rfl | exact Or.inr rfl)) (pss_cons (ps_asg (pe_dget (hu1 hr) (pv 0) (pv 6) fun _ _ => rfl) (pg_tup rfl (pgs_cons (pg_name (i := 7) sc_shortest_way.nd rfl (by first | exact Or.inl rfl | exact Or.inr rfl)) (pgs_cons (pg_name (i := 8) sc_shortest_way.nd rfl (by first | exact Or.inl rfl | exact Or.inr rfl)) pgs_nil))))
      (pss_one (ps_if (PW.pt (pw_and (pt_cmpR (op_eqP (by have := (hr).units; exact this)) (pv 7) (pe_ix ix_seq (pv 4) (pv 5) fun _ _ => rfl) (nomark _)) (pw_and1 (pt_cmp (pc_dnotin (hu1 hr) (pv 8) (pv 3)) (by with_unfolding_all rfl)))))
      (pss_cons (ps_dput (hu1 hr) (pv 3) (pv 8) (pe_op op_addU (pe_dget (hu1 hr) (pv 3) (pv 7) fun _ _ => rfl) (pe_lst (pa_cons (pv 6) pa_nil))) rfl)
      (pss_one (ps_expr (pe_bm PySem.F.plainAttrs_list PySem.F.slot_list_append PySem.F.type_list_append mt_append (pv 4) (pa_cons (pv 8) pa_nil)))))
      pss_nil)))))
      (pss_one (ps_aug (i := 5) sc_shortest_way.nd rfl (by first | exact Or.inl rfl | exact Or.inr rfl) pe_int ip_add))))
      (pss_one (ps_ret (pe_dget1 (hu1 hr) (pv 3) (pv 2) ⟨rfl, rfl, rfl, rfl⟩))))))), fun ws ka out B F0 Q hC hR hX => ?_⟩)
  obtain ⟨a, b, c, rfl, ps, es, s, q, rfl, rfl, rfl, hs, hps, hnd, hl, hel, rfl, rfl⟩ := hC
  refine q_asgN (evn_disp1 (d := .lst []) (ev_var rfl) (evn_lst (ds := []) ea_nil (show 0 ≤ 100000 by decide)).lst) (fun a => ?_)
  refine q_asgN (evn_lst (ds := [.str s]) (ea1 (ev_var rfl)) (show 1 ≤ 100000 by decide)) (fun b => ?_)
  refine q_asg ev_int ?_
  refine q_while (fun m ro ka => ∃ (wy : List (Str × List Str)) (n : Nat) (v1 v2 v3 : Option W), ro = [some (.val (.dic (enD es))), some (.val (.str s)), some (.val (.str q)), some (.val (.adr a)), some (.val (.adr b)), some (.val (.int n)), v1, v2, v3] ∧ ka = [(a, .dic (wyD wy)), (b, .lst (stD (keysT wy)))] ∧ WyIn ps es s n 0 wy ∧ m = ps.length - n)
    ps.length ⟨[(s, [])], 0, none, none, none, rfl, rfl, .ini hs, rfl⟩ (fun m ro2 ka2 ⟨wy, n, v1, v2, v3, e1, e2, hw, hm⟩ => ?_)
  subst e1 e2
  refine ⟨_, _, et_and (et_test (ev_lt (ev_var rfl) (ev_len (ev_var rfl) (.ce 1 rfl)))) (fun _ => et_B ((ev_dni (ev_var rfl) (ev_var rfl) (.ce 0 rfl)).to (by rw [show wyD wy = tbD _ wy from rfl, tb_in]))), fun hb => ?_, fun hb => ?_⟩
  · rw [Bool.and_eq_true, decide_eq_true_eq, stD_len, List.length_map] at hb
    have hlt : n < wy.length := by omega
    obtain ⟨cur, hcur⟩ : ∃ c, (keysT wy)[n]? = some c := ⟨_, List.getElem?_eq_getElem (by rw [List.length_map]; exact hlt)⟩
    refine q_forK (evp_var rfl) (fun i ro ka => ∃ (wy : List (Str × List Str)) (v1 v2 v3 : Option W), ro = [some (.val (.dic (enD es))), some (.val (.str s)), some (.val (.str q)), some (.val (.adr a)), some (.val (.adr b)), some (.val (.int n)), v1, v2, v3] ∧ ka = [(a, .dic (wyD wy)), (b, .lst (stD (keysT wy)))] ∧ WyIn ps es s n i wy ∧ n < wy.length ∧ (keysT wy)[n]? = some cur) (fun _ _ => False)
      ⟨wy, v1, v2, v3, rfl, rfl, hw, hlt, hcur⟩ (fun B' F1 rt' bk' ta' hrt hbk i kv ro2 ka2 hkv ⟨wy, v1, v2, v3, e1, e2, hw, hlt, hcur⟩ => ?_) (fun ro2 ka2 h => ?_)
    · subst e1 e2
      obtain ⟨r, hr2, rfl⟩ := enD_at hkv
      have hm2 := List.mem_of_getElem? hr2
      refine ⟨_, at_n, q_asgT (ev_dgetV (d := lnD r) (ev_var rfl) (ev_var rfl) .v (enD_get hnd hr2)) at_t2 ?_⟩
      refine g_if (et_and (et_test (ev_eqS (ev_var rfl) (ev_ixV (ev_var rfl) (ev_var rfl) (.ce 1 rfl) (atI_nat (stD_get hcur))))) fun _ => et_B ((ev_dni (ev_var rfl) (ev_var rfl) (.ce 0 rfl)).to (by rw [show wyD wy = tbD _ wy from rfl, tb_in]))) (fun hb => ?_) (fun hb => g_next (g_jp ⟨wy, _, _, _, rfl, rfl, hw.skip hr2 fun p hp e => ?_, hlt, hcur⟩))
      · rw [Bool.and_eq_true, beq_iff_eq, Bool.not_eq_true', decide_eq_false_iff_not] at hb
        obtain ⟨h1, h2⟩ := hb
        have hm3 : r.2.1 ∈ keysT wy := by rw [h1]; exact List.mem_of_getElem? hcur
        obtain ⟨ls, hls⟩ := key_has hm3
        have hb2 : wy.length < 1001 := by have := hw.len; omega
        have hll := (hw.wk _ _ hls).2
        refine q_dput (j := 0) (d := .lst (stD (ls ++ [r.1]))) ((evn_op (ev_dgetV (d := .lst (stD ls)) (ev_var rfl) (ev_var rfl) (.ce 0 rfl) (tb_get hw.nd hls)) (evn_lst (ds := [.str r.1]) (ea1 (ev_var rfl)) (show 1 ≤ 100000 by decide)).lst (rvn_cat (b1 := false) (b2 := false) .vl .vl (by rw [stD_len, List.length_singleton]; omega))).lst.to (congrArg (fun z => W.val (.lst z)) (stD_app ls [r.1]))) (ev_var rfl) (ev_var rfl) rfl (by rw [show wyD wy = tbD _ wy from rfl, tbD_len]; omega) ?_
        refine g_app (j0 := 1) (j := 1) (d := .str r.2.2) (ev_var rfl) rfl (ev_var rfl) rfl (by rw [stD_len, List.length_map]; omega) (g_jp ⟨wy ++ [(r.2.2, ls ++ [r.1])], _, _, _, rfl, ?_, hw.add hr2 hls (h1 ▸ hcur) h2 (hps r hm2) hlt, by rw [List.length_append]; omega, ?_⟩)
        · have e5 : putT (wyD wy) (.inr r.2.2) (.lst (stD (ls ++ [r.1]))) = wyD (wy ++ [(r.2.2, ls ++ [r.1])]) := tb_put (f := fun ls => .lst (stD ls)) h2
          have e6 : stD (keysT (wy ++ [(r.2.2, ls ++ [r.1])])) = stD (keysT wy) ++ [.str r.2.2] := by rw [keys_app, ← stD_app]; rfl
          rw [e6, ← e5]
          rfl
        · rw [keys_app, List.getElem?_append_left (by rw [List.length_map]; exact hlt)]
          exact hcur
      · rw [hcur] at hp
        cases hp
        rw [Bool.and_eq_false_iff, beq_eq_false_iff_ne, Bool.not_eq_false', decide_eq_true_eq] at hb
        rcases hb with hb | hb
        · exact absurd e hb
        · exact hb
    · rcases h with ⟨wy, v1, v2, v3, e1, e2, hw, hlt, hcur⟩ | h
      · subst e1 e2
        rw [enD_len] at hw
        have hb2 : wy.length ≤ ps.length := hw.len
        exact g_augI (z := ((n + 1 : Nat) : Int)) rfl ev_int (fun H Q q => ⟨_, _, rfl, rfl, by push_cast at q ⊢; exact q⟩) (g_jp ⟨ps.length - (n + 1), by omega, wy, n + 1, _, _, _, rfl, rfl, hw.next hlt, rfl⟩)
      · exact h.elim
  · have hend : getD? (wyD wy) q = getD? (wyD (wyAll ps es s)) q := by
      rw [Bool.and_eq_false_iff, decide_eq_false_iff_not, stD_len, List.length_map, Bool.not_eq_false', decide_eq_true_eq] at hb
      rcases hb with hb | hb
      · have hle := hw.le
        have hn : n = wy.length := by omega
        subst hn
        rw [hw.fin.eq]
      · obtain ⟨zs, hz⟩ := bfsJ_pre es (ps.length - n) n 0 wy
        rw [← hw.run, hz, wy_stays hb]
    exact g_ret hR (((ev_dgetN (ev_var rfl) (.ce 0 rfl) (ev_var rfl) (.ce 0 rfl)).less (List.nil_sublist _))) ⟨by rw [hend], rfl⟩
end
open Classical in
/-- the posts that s reaches, in order -/
noncomputable def rchL (ps : List Str) (es : List Ln) (s : Str) : List Str := ps.filter fun p => decide (Rch es s p)
def fdD (fs : List Str) : List (Key × D) := tbD D.bl (fs.map fun s => (s, true))
theorem fd_keys (fs : List Str) : keysT (fs.map fun s => (s, true)) = fs := by
  unfold keysT
  rw [List.map_map]
  exact List.map_id _
theorem fd_in (fs : List Str) (s : Str) : (getT (fdD fs) (.inr s)).isSome = decide (s ∈ fs) := by
  have := tb_in (f := D.bl) (fs.map fun s => (s, true)) s
  rw [fd_keys] at this
  exact this
theorem fd_put {fs : List Str} {s : Str} (h : ¬ s ∈ fs) : putT (fdD fs) (.inr s) (.bl true) = fdD (fs ++ [s]) := by
  have := tb_put (f := D.bl) (xs := fs.map fun s => (s, true)) (s := s) (v := true) (by rw [fd_keys]; exact h)
  unfold fdD
  rw [this, List.map_append]
  rfl
theorem fd_len (fs : List Str) : (fdD fs).length = fs.length := by
  unfold fdD
  rw [tbD_len, List.length_map]
structure FdOk (ps : List Str) (es : List Ln) (s : Str) (fs : List Str) : Prop where
  nd : fs.Nodup
  sub : ∀ p ∈ fs, p ∈ ps
  st : s ∈ fs
  rc : ∀ p ∈ fs, Rch es s p
theorem FdOk.add {ps : List Str} {es : List Ln} {s : Str} {fs : List Str} (h : FdOk ps es s fs) {r : Ln} (m : r ∈ es) (h1 : r.2.1 ∈ fs) (h2 : ¬ r.2.2 ∈ fs) (hp : r.2.2 ∈ ps) : FdOk ps es s (fs ++ [r.2.2]) := by
  refine ⟨?_, fun p q => ?_, List.mem_append_left _ h.st, fun p q => ?_⟩
  · rw [List.nodup_append]
    refine ⟨h.nd, List.nodup_cons.mpr ⟨List.not_mem_nil, List.nodup_nil⟩, fun x hx y hy z => h2 ?_⟩
    rw [List.mem_singleton.mp hy] at z
    rw [← z]; exact hx
  · rcases List.mem_append.mp q with q | q
    · exact h.sub p q
    · rw [List.mem_singleton.mp q]; exact hp
  · rcases List.mem_append.mp q with q | q
    · exact h.rc p q
    · rw [List.mem_singleton.mp q]; exact .step (h.rc _ h1) m rfl
theorem FdOk.fin {ps : List Str} {es : List Ln} {s : Str} {fs : List Str} (h : FdOk ps es s fs) (c : ∀ r ∈ es, r.2.1 ∈ fs → r.2.2 ∈ fs) : ps.filter (fun p => decide (p ∈ fs)) = rchL ps es s := by
  unfold rchL
  refine List.filter_congr fun p hp => ?_
  clear hp
  refine decide_eq_decide.mpr ⟨h.rc p, fun q => ?_⟩
  induction q with
  | refl => exact h.st
  | step _ m e ih => exact c _ m (by rw [e]; exact ih)
def ct_reached_posts (K : PySem.W.Frag) : Ct := Ct2 fun a b ka out => ∃ ps es s, a = .val (NetD K ps es) ∧ b = .val (.str s) ∧ s ∈ ps ∧ (∀ r ∈ es, r.2.2 ∈ ps) ∧ (lnN es).Nodup ∧ ps.length ≤ 1000 ∧ es.length ≤ 50000 ∧ ka = [] ∧ out = Rt (.tup (stD (rchL ps es s))) []
section
variable {P : Program} {w : World} {K : PySem.W.Frag} {mg : Str → Option Value} {base : Heap}
theorem ok_reached_posts (T : Tx K mg) : Fn P w K mg base 4 (He.ga K "reached_posts") ["net", "start"] (ct_reached_posts K) := by
  obtain ⟨fd, F⟩ := T.d_reached_posts
  refine fn_ok F sc_reached_posts (fun _ _ _ _ _ _ us hl => match us, hl with | [_, _], _ => rfl) ct2_len (fun cdv A outer s H E hr => ⟨_, (pss_cons (ps_set (i := 2) sc_reached_posts.nd rfl (by first | exact Or.inl rfl | exact Or.inr rfl) (pe_disp (pps_cons (pv 1) pe_bl pps_nil) rfl rfl (by simp) (by decide)))
      (pss_cons (ps_set (i := 3) sc_reached_posts.nd rfl (by first | exact Or.inl rfl | exact Or.inr rfl) pe_bl)
      (pss_cons (ps_while (passes_of rfl) (pt_val (pv 3)) (pss_cons (ps_set (i := 3) sc_reached_posts.nd rfl (by first | exact Or.inl rfl | exact Or.inr rfl) pe_bl)
      (pss_one (ps_lkS (ps_for (passes_of rfl) rfl (pi_keys (pe_fld (pv 0) rfl)) (pg_name (i := 4) sc_reached_posts.nd rfl (by first | exact Or.inl rfl | exact Or.inr rfl)) (pss_cons (ps_asg (pe_dget (hu1 hr) (pe_fld (pv 0) rfl) (pv 4) fun _ _ => rfl) (pg_tup rfl (pgs_cons (pg_name (i := 5) sc_reached_posts.nd rfl (by first | exact Or.inl rfl | exact Or.inr rfl)) (pgs_cons (pg_name (i := 6) sc_reached_posts.nd rfl (by first | exact Or.inl rfl | exact Or.inr rfl)) pgs_nil))))
      (pss_one (ps_if (PW.pt (pw_and (pt_cmp (pc_din (hu1 hr) (pv 5) (pv 2)) (by with_unfolding_all rfl)) (pw_and1 (pt_cmp (pc_dnotin (hu1 hr) (pv 6) (pv 2)) (by with_unfolding_all rfl)))))
      (pss_cons (ps_dput (hu1 hr) (pv 2) (pv 6) pe_bl rfl)
      (pss_one (ps_set (i := 3) sc_reached_posts.nd rfl (by first | exact Or.inl rfl | exact Or.inr rfl) pe_bl)))
      pss_nil))))))))
      (pss_one (ps_ret (pe_callTy call_tupU rfl T.n_tuple (by decide +kernel) (pa_cons (pe_lc (te := (tVar 7)) (tt := (tB (tDIn (tVar 7) (tVar 2)))) (own := [("post", 7)]) rfl sc_reached_posts.nd (pi_seq (pe_fld (pv 0) rfl)) (blk_ok ["net", "start", "found", "going", "lane", "first", "second", "post"] (defScope s_reached_posts) rfl rfl (by decide +kernel)) (fun _ _ _ _ _ => (pg_name (i := 7) sc_reached_posts.nd rfl (by first | exact Or.inl rfl | exact Or.inr rfl))) (fun _ _ _ _ _ => (pts_one (pt_cmp (pc_din (hu1 hr) (pv 7) (pv 2)) (by with_unfolding_all rfl)))) (fun _ _ _ _ _ => (pv 7))) pa_nil))))))), fun ws ka out B F0 Q hC hR hX => ?_⟩)
  obtain ⟨a, b, rfl, ps, es, s, rfl, rfl, hs, hps, hn, hl, hel, rfl, rfl⟩ := hC
  have fe : ∀ {ro : Ro} {ka : Cells}, ro[0]? = some (some (.val (NetD K ps es))) → EvD K (tFld K (tVar 0) "ends_by_lane") ro ka (.val (.dic (enD es))) ka := fun h => ev_fld (ev_var h) .v T.cl_Net T.na_Net_ends_by_lane rfl
  refine q_asgN (evn_disp1 (d := .bl true) (ev_var rfl) ev_bl) (fun a => ?_)
  refine q_asg ev_bl ?_
  refine q_while (fun m ro ka => ∃ (fs : List Str) (g : Bool) (v1 v2 v3 : Option W), ro = [some (.val (NetD K ps es)), some (.val (.str s)), some (.val (.adr a)), some (.val (.bl g)), v1, v2, v3, none] ∧ ka = [(a, .dic (fdD fs))] ∧ FdOk ps es s fs ∧ (g = false → ∀ r ∈ es, r.2.1 ∈ fs → r.2.2 ∈ fs) ∧ m = 2 * (ps.length - fs.length) + (if g = true then 1 else 0))
    _ ⟨[s], true, none, none, none, rfl, rfl, ⟨List.nodup_cons.mpr ⟨List.not_mem_nil, List.nodup_nil⟩, fun p q => by rw [List.mem_singleton.mp q]; exact hs, List.mem_singleton.mpr rfl, fun p q => by rw [List.mem_singleton.mp q]; exact .refl⟩, fun z => (by cases z), rfl⟩ (fun m ro2 ka2 ⟨fs, g, v1, v2, v3, e1, e2, hf, hc, hm⟩ => ?_)
  subst e1 e2
  refine ⟨_, _, et_B (ev_var rfl), fun hb => ?_, fun hb => ?_⟩
  · subst hb
    rw [if_pos rfl] at hm
    refine q_asg ev_bl ?_
    refine g_forK (evp_fld (evp_var rfl) T.cl_Net T.na_Net_ends_by_lane rfl) (fun i ro ka => ∃ (fs' : List Str) (g : Bool) (v1 v2 v3 : Option W), ro = [some (.val (NetD K ps es)), some (.val (.str s)), some (.val (.adr a)), some (.val (.bl g)), v1, v2, v3, none] ∧ ka = [(a, .dic (fdD fs'))] ∧ FdOk ps es s fs' ∧ ((g = false ∧ fs' = fs ∧ ∀ j r, j < i → es[j]? = some r → r.2.1 ∈ fs → r.2.2 ∈ fs) ∨ (g = true ∧ fs.length < fs'.length))) (fun _ _ => False)
      ⟨fs, false, v1, v2, v3, rfl, rfl, hf, .inl ⟨rfl, rfl, fun j r z => absurd z (Nat.not_lt_zero _)⟩⟩ (fun B' F1 rt' bk' ta' hrt hbk i kv ro2 ka2 hkv ⟨fs', g, v1, v2, v3, e1, e2, hf', hd⟩ => ?_) (fun ro2 ka2 h => ?_)
    · subst e1 e2
      obtain ⟨r, hr2, rfl⟩ := enD_at hkv
      have hmr := List.mem_of_getElem? hr2
      refine ⟨_, at_n, q_asgT (ev_dgetV (d := lnD r) (fe rfl) (ev_var rfl) .v (enD_get hn hr2)) at_t2 ?_⟩
      refine g_if (et_and (et_B ((ev_din (ev_var rfl) (ev_var rfl) (.ce 0 rfl)).to (by rw [fd_in]))) fun _ => et_B ((ev_dni (ev_var rfl) (ev_var rfl) (.ce 0 rfl)).to (by rw [fd_in]))) (fun hb => ?_) (fun hb => g_next (g_jp ⟨fs', g, _, _, _, rfl, rfl, hf', ?_⟩))
      · rw [Bool.and_eq_true, decide_eq_true_eq, Bool.not_eq_true', decide_eq_false_iff_not] at hb
        have hbig := sub_len hf'.nd hf'.sub
        refine q_dput (j := 0) (d := .bl true) ev_bl (ev_var rfl) (ev_var rfl) rfl (by rw [fd_len]; omega) ?_
        refine g_asg ev_bl (g_jp ⟨fs' ++ [r.2.2], true, _, _, _, rfl, ?_, hf'.add hmr hb.1 hb.2 (hps r hmr), .inr ⟨rfl, ?_⟩⟩)
        · rw [← fd_put hb.2]
          rfl
        · rw [List.length_append, List.length_singleton]
          rcases hd with ⟨_, e, _⟩ | ⟨_, e⟩
          · rw [e]; omega
          · omega
      · rcases hd with ⟨e1, e2, h3⟩ | h3
        · subst e2
          refine .inl ⟨e1, rfl, fun j r' hj hr' hin => ?_⟩
          by_cases q : j = i
          · subst q
            rw [hr2] at hr'
            cases hr'
            rw [Bool.and_eq_false_iff, decide_eq_false_iff_not, Bool.not_eq_false', decide_eq_true_eq] at hb
            exact hb.resolve_left fun z => z hin
          · exact h3 j r' (by omega) hr' hin
        · exact .inr h3
    · rcases h with ⟨fs', g, v1, v2, v3, e1, e2, hf', hd⟩ | h
      · subst e1 e2
        have hbig := sub_len hf'.nd hf'.sub
        refine g_jp ⟨2 * (ps.length - fs'.length) + (if g = true then 1 else 0), ?_, fs', g, v1, v2, v3, rfl, rfl, hf', fun hg r hr hin => ?_, rfl⟩
        · rcases hd with ⟨e1, e2, h3⟩ | ⟨e1, h3⟩
          · subst e1 e2
            rw [if_neg Bool.false_ne_true]; omega
          · subst e1
            rw [if_pos rfl]; omega
        · rcases hd with ⟨e1, e2, h3⟩ | ⟨e1, h3⟩
          · subst e2
            obtain ⟨k, hk, rfl⟩ := List.mem_iff_getElem.mp hr
            exact h3 k _ (by rw [enD_len]; exact hk) (List.getElem?_eq_getElem hk) hin
          · rw [hg] at e1; cases e1
      · exact h.elim
  · subst hb
    refine g_ret hR ((ev_cb (ea1 (evn_filt (xs := ps) (g := fun s => W.val (.str s)) (f := fun s => D.str s) (p := fun s => decide (s ∈ fs)) (ei_strs (ev_fld (ev_var rfl) .v T.cl_Net T.na_Net_order rfl)) (by decide) (by omega) ⟨trivial, fun _ => trivial⟩ (fun s hs => et_B ((ev_din (ev_var rfl) (ev_var rfl) (.ce 0 rfl)).to (by rw [fd_in]))) (fun s hs _ => ev_var rfl)).lst) (rc_tupL .vl (.inl rfl))).less (List.nil_sublist _)) ⟨?_, rfl⟩
    rw [hf.fin (hc rfl)]
    rfl
end
/-! ### parts, as told -/
noncomputable def mutL (ps : List Str) (es : List Ln) (p : Str) : List Str := (rchL ps es p).filter fun q => decide (p ∈ rchL ps es q)
def innL (es : List Ln) (qs : List Str) : List Str := lnN (es.filter fun r => decide (r.2.1 ∈ qs) && decide (r.2.2 ∈ qs))
/-- posts seen, parts told -/
abbrev PrS := List Str × List (List Str × List Str)
noncomputable def prStep (ps : List Str) (es : List Ln) (s : PrS) (p : Str) : PrS :=
  if p ∈ s.1 then s else (s.1 ++ mutL ps es p, if innL es (mutL ps es p) = [] then s.2 else s.2 ++ [(mutL ps es p, innL es (mutL ps es p))])
noncomputable def prL (ps : List Str) (es : List Ln) (xs : List Str) : PrS := xs.foldl (prStep ps es) ([], [])
def prD (rs : List (List Str × List Str)) : List D := rs.map fun r => .tup [.tup (stD r.1), .tup (stD r.2)]
theorem prL_snoc (ps : List Str) (es : List Ln) (xs : List Str) (x : Str) : prL ps es (xs ++ [x]) = prStep ps es (prL ps es xs) x := by
  unfold prL
  rw [List.foldl_append]
  rfl
theorem rchL_sub {ps : List Str} {es : List Ln} {p q : Str} (h : q ∈ rchL ps es p) : q ∈ ps := (List.mem_filter.mp h).1
theorem mutL_sub {ps : List Str} {es : List Ln} {p q : Str} (h : q ∈ mutL ps es p) : q ∈ ps := rchL_sub (List.mem_filter.mp h).1
theorem rchL_nd {ps : List Str} {es : List Ln} (h : ps.Nodup) (p : Str) : (rchL ps es p).Nodup := h.filter _
theorem mutL_nd {ps : List Str} {es : List Ln} (h : ps.Nodup) (p : Str) : (mutL ps es p).Nodup := (rchL_nd h p).filter _
theorem rchL_len (ps : List Str) (es : List Ln) (p : Str) : (rchL ps es p).length ≤ ps.length := List.length_filter_le _ _
theorem mutL_len (ps : List Str) (es : List Ln) (p : Str) : (mutL ps es p).length ≤ ps.length := Nat.le_trans (List.length_filter_le _ _) (rchL_len ps es p)
theorem innL_len (es : List Ln) (qs : List Str) : (innL es qs).length ≤ es.length := by
  unfold innL
  rw [lnN_len]
  exact List.length_filter_le _ _
theorem prL_len (ps : List Str) (es : List Ln) (xs : List Str) : (prL ps es xs).2.length ≤ xs.length := by
  suffices h : ∀ (xs : List Str) (s : PrS), (xs.foldl (prStep ps es) s).2.length ≤ s.2.length + xs.length from by
    have := h xs ([], [])
    simpa [prL] using this
  intro xs
  induction xs with
  | nil => intro s; exact Nat.le_refl _
  | cons x l ih =>
    intro s
    refine Nat.le_trans (ih _) ?_
    unfold prStep
    rw [List.length_cons]
    split
    · omega
    · dsimp only
      split
      · omega
      · rw [List.length_append, List.length_singleton]; omega
/-- keys put in, one behind another -/
def insA (fs qs : List Str) : List Str := qs.foldl (fun acc q => if q ∈ acc then acc else acc ++ [q]) fs
theorem fd_put2 (fs : List Str) (s : Str) : putT (fdD fs) (.inr s) (.bl true) = fdD (if s ∈ fs then fs else fs ++ [s]) := by
  by_cases h : s ∈ fs
  · rw [if_pos h]
    unfold putT
    have hh : hasT (fdD fs) (.inr s) = true := by
      rw [← getT_isSome, fd_in]
      exact decide_eq_true h
    rw [if_pos hh]
    unfold fdD tbD
    rw [List.map_map, List.map_map, List.map_map]
    refine List.map_congr_left fun x _ => ?_
    show newAt (Sum.inr s : Key) (D.bl true) (Sum.inr x, D.bl true) = (Sum.inr x, D.bl true)
    unfold newAt
    split <;> rfl
  · rw [if_neg h]
    exact fd_put h
theorem fd_merge (qs : List Str) : ∀ fs : List Str, mergeT (fdD fs) (fdD qs) = fdD (insA fs qs) := by
  induction qs with
  | nil => intro fs; rfl
  | cons q l ih =>
    intro fs
    have : mergeT (fdD fs) (fdD (q :: l)) = mergeT (putT (fdD fs) (.inr q) (.bl true)) (fdD l) := rfl
    rw [this, fd_put2, ih]
    rfl
theorem insA_mem (qs : List Str) : ∀ (fs : List Str) (x : Str), x ∈ insA fs qs ↔ x ∈ fs ∨ x ∈ qs := by
  induction qs with
  | nil => intro fs x; simp [insA]
  | cons q l ih =>
    intro fs x
    have : insA fs (q :: l) = insA (if q ∈ fs then fs else fs ++ [q]) l := rfl
    rw [this, ih, List.mem_cons]
    by_cases h : q ∈ fs
    · rw [if_pos h]
      constructor
      · rintro (a | a)
        · exact .inl a
        · exact .inr (.inr a)
      · rintro (a | a | a)
        · exact .inl a
        · exact .inl (a ▸ h)
        · exact .inr a
    · rw [if_neg h, List.mem_append, List.mem_singleton]
      constructor
      · rintro ((a | a) | a)
        · exact .inl a
        · exact .inr (.inl a)
        · exact .inr (.inr a)
      · rintro (a | a | a)
        · exact .inl (.inl a)
        · exact .inl (.inr a)
        · exact .inr a
theorem insA_nd (qs : List Str) : ∀ (fs : List Str), fs.Nodup → (insA fs qs).Nodup := by
  induction qs with
  | nil => intro fs h; exact h
  | cons q l ih =>
    intro fs h
    have : insA fs (q :: l) = insA (if q ∈ fs then fs else fs ++ [q]) l := rfl
    rw [this]
    refine ih _ ?_
    by_cases hq : q ∈ fs
    · rw [if_pos hq]; exact h
    · rw [if_neg hq, List.nodup_append]
      exact ⟨h, List.nodup_cons.mpr ⟨List.not_mem_nil, List.nodup_nil⟩, fun x hx y hy z => hq (by rw [List.mem_singleton.mp hy] at z; rw [← z]; exact hx)⟩
def rdD (f : Str → List Str) (xs : List Str) : List (Key × D) := tbD (fun q => .tup (stD q)) (xs.map fun p => (p, f p))
theorem rd_keys (f : Str → List Str) (xs : List Str) : keysT (xs.map fun p => (p, f p)) = xs := by
  unfold keysT
  rw [List.map_map]
  exact List.map_id _
theorem rd_get {f : Str → List Str} {xs : List Str} (h : xs.Nodup) {p : Str} (hp : p ∈ xs) : getT (rdD f xs) (.inr p) = some (.tup (stD (f p))) := tb_get (f := fun q => .tup (stD q)) (by rw [rd_keys]; exact h) (List.mem_map.mpr ⟨p, hp, rfl⟩)
theorem rd_put {f : Str → List Str} {xs : List Str} {p : Str} (h : ¬ p ∈ xs) : putT (rdD f xs) (.inr p) (.tup (stD (f p))) = rdD f (xs ++ [p]) := by
  have := tb_put (f := fun q => .tup (stD q)) (xs := xs.map fun p => (p, f p)) (s := p) (v := f p) (by rw [rd_keys]; exact h)
  unfold rdD
  rw [this, List.map_append]
  rfl
theorem fm_non (xs ys : List Str) : isNonD (fmD xs ys) = xs.all fun x => decide (x ∈ ys) := by
  unfold fmD
  cases h : xs.find? fun x => !decide (x ∈ ys) with
  | none =>
    rw [List.find?_eq_none] at h
    refine (List.all_eq_true.mpr fun x hx => ?_).symm
    have := h x hx
    simpa using this
  | some x =>
    have h1 := List.find?_some h
    have h2 := List.mem_of_find?_eq_some h
    refine (Bool.eq_false_iff.mpr fun z => ?_).symm
    have := List.all_eq_true.mp z x h2
    rw [this] at h1
    cases h1
open Classical in
theorem mutL_eq (ps : List Str) (es : List Ln) (p : Str) (hp : p ∈ ps) : ps.filter (fun q => decide (Rch es p q) && decide (Rch es q p)) = mutL ps es p := by
  unfold mutL
  rw [rchL, List.filter_filter]
  refine List.filter_congr fun q _ => ?_
  rw [Bool.and_comm]
  congr 1
  refine decide_eq_decide.mpr ?_
  unfold rchL
  rw [List.mem_filter, decide_eq_true_eq]
  exact ⟨fun h => ⟨hp, h⟩, fun h => h.2⟩
def ct_parts_of (K : PySem.W.Frag) : Ct := Ct1 fun a ka out => ∃ ps es, a = .val (NetD K ps es) ∧ ps.Nodup ∧ (∀ r ∈ es, r.2.2 ∈ ps) ∧ (lnN es).Nodup ∧ ps.length ≤ 1000 ∧ es.length ≤ 40000 ∧ ka = [] ∧ out = Nt (.lst (prD (prL ps es ps).2)) []
section
variable {P : Program} {w : World} {K : PySem.W.Frag} {mg : Str → Option Value} {base : Heap}
theorem ok_parts_of (T : Tx K mg) (F_first_missing : Fn P w K mg base 4 (He.ga K "first_missing") ["names", "known"] (ct_first_missing K)) (F_reached_posts : Fn P w K mg base 4 (He.ga K "reached_posts") ["net", "start"] (ct_reached_posts K)) : Fn P w K mg base 6 (He.ga K "parts_of") ["net"] (ct_parts_of K) := by
  obtain ⟨fd, F⟩ := T.d_parts_of
  refine fn_ok F sc_parts_of (fun _ _ _ _ _ _ us hl => match us, hl with | [_], _ => rfl) ct1_len (fun cdv A outer s H E hr => ⟨_, (pss_cons (ps_set (i := 2) sc_parts_of.nd rfl (by first | exact Or.inl rfl | exact Or.inr rfl) (pe_dc (tk := (tVar 1)) (tv := (tCall (spC K (ct_reached_posts K)) [] (fun _ _ _ => False) (tCons (tVar 0) (tCons (tVar 1) tNil)))) (tt := tYes) (own := [("post", 1)]) rfl sc_parts_of.nd (pi_seq (pe_fld (pv 0) rfl)) (blk_ok ["net", "post", "reached", "parts", "known", "other", "posts", "lane", "inner"] (defScope s_parts_of) rfl rfl (by decide +kernel)) (fun _ _ _ _ _ => (pg_name (i := 1) sc_parts_of.nd rfl (by first | exact Or.inl rfl | exact Or.inr rfl))) (fun _ _ _ _ _ => pts_nil) (fun _ _ _ _ _ => (pv 1)) (fun _ _ _ _ _ => (pe_call (F_reached_posts.up (by decide)).ok hr rfl T.g_reached_posts.1 T.g_reached_posts.2 (F_reached_posts.up (by decide)).bn .nil passes_no (pa_cons (pv 0) (pa_cons (pv 1) pa_nil))))))
      (pss_cons (ps_set (i := 3) sc_parts_of.nd rfl (by first | exact Or.inl rfl | exact Or.inr rfl) (pe_lst pa_nil))
      (pss_cons (ps_set (i := 4) sc_parts_of.nd rfl (by first | exact Or.inl rfl | exact Or.inr rfl) pe_dnewK)
      (pss_cons (ps_for (passes_of rfl) rfl (pi_seq (pe_fld (pv 0) rfl)) (pg_name (i := 1) sc_parts_of.nd rfl (by first | exact Or.inl rfl | exact Or.inr rfl)) (pss_one (ps_if (pt_cmp (pc_dnotin (hu1 hr) (pv 1) (pv 4)) (by with_unfolding_all rfl))
      (pss_cons (ps_set (i := 6) sc_parts_of.nd rfl (by first | exact Or.inl rfl | exact Or.inr rfl) (pe_callTy call_tupU rfl T.n_tuple (by decide +kernel) (pa_cons (pe_lc (te := (tVar 5)) (tt := (tTest (tOp (rInU K) (tVar 1) (tDGet (tVar 2) (tVar 5))))) (own := [("other", 5)]) rfl sc_parts_of.nd (pi_seq (pe_dget (hu1 hr) (pv 2) (pv 1) fun _ _ => rfl)) (blk_ok ["net", "post", "reached", "parts", "known", "other", "posts", "lane", "inner"] (defScope s_parts_of) rfl rfl (by decide +kernel)) (fun _ _ _ _ _ => (pg_name (i := 5) sc_parts_of.nd rfl (by first | exact Or.inl rfl | exact Or.inr rfl))) (fun _ _ _ _ _ => (pts_one (pt_cmpR op_inU (pv 1) (pe_dget (hu1 hr) (pv 2) (pv 5) fun _ _ => rfl) (by with_unfolding_all rfl)))) (fun _ _ _ _ _ => (pv 5))) pa_nil)))
      (pss_cons (ps_expr (pe_bm PySem.F.plainAttrs_dict PySem.F.slot_dict_update PySem.F.type_dict_update mt_dupd (pv 4) (pa_cons (pe_dc (tk := (tVar 5)) (tv := (tC (.bl true))) (tt := tYes) (own := [("other", 5)]) rfl sc_parts_of.nd (pi_seq (pv 6)) (blk_ok ["net", "post", "reached", "parts", "known", "other", "posts", "lane", "inner"] (defScope s_parts_of) rfl rfl (by decide +kernel)) (fun _ _ _ _ _ => (pg_name (i := 5) sc_parts_of.nd rfl (by first | exact Or.inl rfl | exact Or.inr rfl))) (fun _ _ _ _ _ => pts_nil) (fun _ _ _ _ _ => (pv 5)) (fun _ _ _ _ _ => pe_bl)) pa_nil)))
      (pss_cons (ps_lkS (ps_setLc (i := 8) (te := (tVar 7)) (tt := (tTest (tOp rIsN (tCall (spC K (ct_first_missing K)) [] (fun _ _ _ => False) (tCons (tDGet (tFld K (tVar 0) "ends_by_lane") (tVar 7)) (tCons (tVar 6) tNil))) (tC .non)))) (own := [("lane", 7)]) rfl sc_parts_of.nd rfl rfl rfl (pi_keys (pe_fld (pv 0) rfl)) (blk_ok ["net", "post", "reached", "parts", "known", "other", "posts", "lane", "inner"] (defScope s_parts_of) rfl rfl (by decide +kernel)) (fun _ _ _ _ _ => (pg_name (i := 7) sc_parts_of.nd rfl (by first | exact Or.inl rfl | exact Or.inr rfl))) (fun _ _ _ _ _ => (pts_one (pt_cmpR op_isN1 (pe_call (F_first_missing.up (by decide)).ok hr rfl T.g_first_missing.1 T.g_first_missing.2 (F_first_missing.up (by decide)).bn .nil passes_no (pa_cons (pe_dget (hu1 hr) (pe_fld (pv 0) rfl) (pv 7) fun _ _ => rfl) (pa_cons (pv 6) pa_nil))) pe_non (nomark _)))) (fun _ _ _ _ _ => (pv 7))))
      (pss_one (ps_if (pt_cmpR (op_neP (by have := (hr).units; exact this)) (pv 8) (pe_lst pa_nil) (nomark _))
      (pss_one (ps_expr (pe_bm PySem.F.plainAttrs_list PySem.F.slot_list_append PySem.F.type_list_append mt_append (pv 3) (pa_cons (pe_tup (pa_cons (pv 6) (pa_cons (pe_callTy call_tupU rfl T.n_tuple (by decide +kernel) (pa_cons (pv 8) pa_nil)) pa_nil))) pa_nil))))
      pss_nil)))))
      pss_nil)))
      (pss_one (ps_ret (pv 3))))))), fun ws ka out B F0 Q hC hR hX => ?_⟩)
  obtain ⟨a, rfl, ps, es, rfl, hnd, hps, hn, hl, hel, rfl, rfl⟩ := hC
  have fo : ∀ {ro : Ro} {ka : Cells}, ro[0]? = some (some (.val (NetD K ps es))) → EvD K (tFld K (tVar 0) "order") ro ka (.val (.lst (stD ps))) ka := fun h => ev_fld (ev_var h) .v T.cl_Net T.na_Net_order rfl
  have fe : ∀ {ro : Ro} {ka : Cells}, ro[0]? = some (some (.val (NetD K ps es))) → EvD K (tFld K (tVar 0) "ends_by_lane") ro ka (.val (.dic (enD es))) ka := fun h => ev_fld (ev_var h) .v T.cl_Net T.na_Net_ends_by_lane rfl
  refine q_asgNR (evr_dc (ei_strs (fo rfl)) (by decide) (by rw [List.length_map]; omega) (fun i acc k => acc = rdD (rchL ps es) (ps.take i) ∧ k = []) ⟨rfl, rfl⟩ (fun i acc k _ => ⟨trivial, fun _ => trivial⟩) (fun i w acc k hw ⟨e1, e2⟩ => ?_)) ?_
  · subst e1 e2
    rw [List.getElem?_map] at hw
    obtain ⟨p, hp, rfl⟩ := Option.map_eq_some_iff.mp hw
    refine .inr ⟨_, _, _, .inr p, _, et_yes, ev_var rfl, ev_callP (ea2 (ev_var rfl) (ev_var rfl)) ⟨_, _, rfl, ps, es, p, rfl, rfl, List.mem_of_getElem? hp, hps, hn, hl, by omega, rfl, rfl⟩, ?_, rfl⟩
    rw [rd_put (not_take hnd hp), take_succ_some hp]
  rintro n k a ⟨acc, rfl, rfl, rfl⟩
  rw [List.length_map, List.take_length]
  refine Gp.frzK (kr := []) (i := 2) rfl (List.Perm.refl _) ?_
  refine q_asgN (evn_lst (ds := []) ea_nil (by decide)) (fun b => ?_)
  refine q_asgN evn_dnew (fun c => ?_)
  refine q_forn (ei_strs (fo rfl)) (fun i ro ka => ∃ (kn : List Str) (v v1 v2 v3 v4 : Option W), ro = [some (.val (NetD K ps es)), v, some (.val (.dic (rdD (rchL ps es) ps))), some (.val (.adr b)), some (.val (.adr c)), v1, v2, v3, v4] ∧ ka = [(b, .lst (prD (prL ps es (ps.take i)).2)), (c, .dic (fdD kn))] ∧ kn.Nodup ∧ (∀ x ∈ kn, x ∈ ps) ∧ ∀ x, x ∈ kn ↔ x ∈ (prL ps es (ps.take i)).1)
    ⟨[], _, _, _, _, _, rfl, rfl, List.nodup_nil, fun x h => (by cases h), fun x => Iff.rfl⟩ (fun i ro ka _ => trivial) (fun i w ro2 ka2 ta' hw ⟨kn, v, v1, v2, v3, v4, e1, e2, hk1, hk2, hk3⟩ => ?_) (fun ro2 ka2 ta' ⟨kn, v, v1, v2, v3, v4, e1, e2, hk1, hk2, hk3⟩ _ => ?_)
  · subst e1 e2
    rw [List.getElem?_map] at hw
    obtain ⟨p, hp, rfl⟩ := Option.map_eq_some_iff.mp hw
    have hm := List.mem_of_getElem? hp
    have hkl := sub_len hk1 hk2
    have hpl := prL_len ps es (ps.take i)
    rw [List.length_take] at hpl
    refine g_if (et_B ((ev_dni (ev_var rfl) (ev_var rfl) (.ce 1 rfl)).to (by rw [fd_in]))) (fun hb => ?_) (fun hb => g_next (g_jp ⟨kn, _, _, _, _, _, rfl, ?_, hk1, hk2, ?_⟩))
    · rw [Bool.not_eq_true', decide_eq_false_iff_not] at hb
      have hb2 : ¬ p ∈ (prL ps es (ps.take i)).1 := fun z => hb ((hk3 p).mpr z)
      have hml := mutL_len ps es p
      refine q_asg (ev_cb (ea1 (evn_filt (xs := rchL ps es p) (g := fun s => W.val (.str s)) (f := fun s => D.str s) (p := fun q => decide (p ∈ rchL ps es q)) (ei_strsL (ev_dgetV (ev_var rfl) (ev_var rfl) .v (rd_get hnd hm)) .vt) (by decide) (by have := rchL_len ps es p; omega) ⟨trivial, fun _ => trivial⟩ (fun q hq => et_test (ev_inL (ev_var rfl) (ev_dgetV (ev_var rfl) (ev_var rfl) .v (rd_get hnd (rchL_sub hq))) .vt)) (fun q hq _ => ev_var rfl)).lst) (rc_tupL .vl (.inl rfl))) ?_
      refine q_dupd (j := 1) (ms := fdD (mutL ps es p)) (ev_var rfl) ⟨1, _, rfl⟩ ((evr_dc (ei_strsL (ss := mutL ps es p) (ev_var rfl) .vt) (by decide) (by rw [List.length_map]; omega) (fun i acc k => acc = fdD ((mutL ps es p).take i) ∧ k = _) ⟨rfl, rfl⟩ (fun i acc k _ => ⟨trivial, fun _ => trivial⟩) (fun j w acc k hw2 ⟨e1, e2⟩ => ?dcs)).dicD fun n k ⟨acc, e1, e2, e3⟩ => ⟨?dce, e3⟩) rfl (by rw [fd_len, fd_len]; omega) ?dsz ?dgo
      case dcs =>
        subst e1 e2
        rw [List.getElem?_map] at hw2
        obtain ⟨q, hq, rfl⟩ := Option.map_eq_some_iff.mp hw2
        refine .inr ⟨_, _, _, .inr q, .bl true, et_yes, ev_var rfl, ev_bl, ?_, rfl⟩
        rw [fd_put (not_take (mutL_nd hnd p) hq), take_succ_some hq]
      case dce => rw [e1, e2, List.length_map, List.take_length]
      case dsz =>
        rw [fd_merge, fd_len]
        have := sub_len (insA_nd (mutL ps es p) kn hk1) (ys := ps) fun x hx => ((insA_mem _ _ _).mp hx).elim (hk2 x) mutL_sub
        omega
      case dgo =>
      rw [fd_merge]
      refine q_asgLk (evr_lcK (evp_fld (evp_var rfl) T.cl_Net T.na_Net_ends_by_lane rfl) (by decide) (by rw [enD_len]; omega) (fun i acc k => acc = stD (innL (es.take i) (mutL ps es p)) ∧ k = _) ⟨rfl, rfl⟩ (fun j kv acc k hkv ⟨e1, e2⟩ => ?_)) (fun n k d ⟨acc, e1, e2, e3⟩ => ?_)
      · subst e1 e2
        obtain ⟨r, hr2, rfl⟩ := enD_at hkv
        have hin : innL (es.take (j + 1)) (mutL ps es p) = innL (es.take j) (mutL ps es p) ++ (if (decide (r.2.1 ∈ mutL ps es p) && decide (r.2.2 ∈ mutL ps es p)) = true then [r.1] else []) := by
          unfold innL lnN
          rw [take_succ_some hr2, List.filter_append, List.map_append]
          congr 1
          rw [List.filter_cons]
          split <;> rfl
        have hfn : isNonD (fmD [r.2.1, r.2.2] (mutL ps es p)) = (decide (r.2.1 ∈ mutL ps es p) && decide (r.2.2 ∈ mutL ps es p)) := by rw [fm_non]; simp
        cases hb3 : (decide (r.2.1 ∈ mutL ps es p) && decide (r.2.2 ∈ mutL ps es p)) with
        | false =>
          refine .inl ⟨_, (et_test (ev_isN (ev_callP (ea2 (ev_dgetV (d := lnD r) (fe rfl) (ev_var rfl) .v (enD_get hn hr2)) (ev_var rfl)) ⟨_, _, rfl, [r.2.1, r.2.2], mutL ps es p, true, false, .vt, .sq .vt, rfl⟩))).to (hfn.trans hb3), ?_, rfl⟩
          rw [hin, hb3, if_neg Bool.false_ne_true, List.append_nil]
        | true =>
          refine .inr ⟨_, _, .str r.1, (et_test (ev_isN (ev_callP (ea2 (ev_dgetV (d := lnD r) (fe rfl) (ev_var rfl) .v (enD_get hn hr2)) (ev_var rfl)) ⟨_, _, rfl, [r.2.1, r.2.2], mutL ps es p, true, false, .vt, .sq .vt, rfl⟩))).to (hfn.trans hb3), ev_var rfl, ?_, rfl⟩
          rw [hin, hb3, if_pos rfl]
          exact stD_app _ [r.1]
      · subst e1 e2 e3
        rw [enD_len, List.take_length]
        have hil := innL_len es (mutL ps es p)
        have hst : prL ps es (ps.take (i + 1)) = ((prL ps es (ps.take i)).1 ++ mutL ps es p, if innL es (mutL ps es p) = [] then (prL ps es (ps.take i)).2 else (prL ps es (ps.take i)).2 ++ [(mutL ps es p, innL es (mutL ps es p))]) := by
          rw [take_succ_some hp, prL_snoc]
          unfold prStep
          rw [if_neg hb2]
        have hkn : (insA kn (mutL ps es p)).Nodup ∧ (∀ x ∈ insA kn (mutL ps es p), x ∈ ps) ∧ ∀ x, x ∈ insA kn (mutL ps es p) ↔ x ∈ (prL ps es (ps.take (i + 1))).1 := by
          refine ⟨insA_nd _ _ hk1, fun x hx => ((insA_mem _ _ _).mp hx).elim (hk2 x) mutL_sub, fun x => ?_⟩
          rw [insA_mem, hst]
          show _ ↔ x ∈ _ ++ _
          rw [List.mem_append, hk3]
        refine Gp.frz (i := 8) (j := 2) rfl rfl ?_
        refine g_if (b := !decide (innL es (mutL ps es p) = [])) ((et_test (ev_ne (d := .lst (stD (innL es (mutL ps es p)))) (e := .lst []) (ev_var rfl) (evn_lst (ds := []) ea_nil (by decide)).lst .v .v (pl_stD _ 60) rfl)).to ?bb) (fun hb => ?ap) (fun hb => g_next (g_jp ⟨insA kn (mutL ps es p), _, _, _, _, _, rfl, ?no, hkn⟩))
        case bb =>
          cases innL es (mutL ps es p) with
          | nil => rfl
          | cons _ _ => rfl
        case ap =>
          rw [Bool.not_eq_true', decide_eq_false_iff_not] at hb
          refine g_app (j0 := 0) (j := 0) (d := .tup [.tup (stD (mutL ps es p)), .tup (stD (innL es (mutL ps es p)))]) (ev_var rfl) rfl (ev_tup (ds := [.tup (stD (mutL ps es p)), .tup (stD (innL es (mutL ps es p)))]) (ea2 (ev_var rfl) (ev_cb (ea1 (ev_var rfl)) (rc_tupL .vl (.inl rfl)))) (show 2 ≤ 100000 by decide)) rfl (by unfold prD; rw [List.length_map]; omega) (g_jp ⟨insA kn (mutL ps es p), _, _, _, _, _, rfl, ?_, hkn⟩)
          rw [hst]
          show _ = [(b, Nd.lst (prD (if innL es (mutL ps es p) = [] then _ else _))), _]
          rw [if_neg hb]
          unfold prD
          rw [List.map_append]
          rfl
        case no =>
          rw [Bool.not_eq_false', decide_eq_true_eq] at hb
          rw [hst]
          show _ = [(b, Nd.lst (prD (if innL es (mutL ps es p) = [] then _ else _))), _]
          rw [if_pos hb]
          rfl
    · rw [Bool.not_eq_false', decide_eq_true_eq] at hb
      have : prL ps es (ps.take (i + 1)) = prL ps es (ps.take i) := by
        rw [take_succ_some hp, prL_snoc]
        unfold prStep
        rw [if_pos ((hk3 p).mp hb)]
      rw [this]
    · rw [Bool.not_eq_false', decide_eq_true_eq] at hb
      have : prL ps es (ps.take (i + 1)) = prL ps es (ps.take i) := by
        rw [take_succ_some hp, prL_snoc]
        unfold prStep
        rw [if_pos ((hk3 p).mp hb)]
      rw [this]
      exact hk3
  · subst e1 e2
    rw [List.length_map, List.take_length]
    exact Gp.less (k1 := [(b, .lst (prD (prL ps es ps).2))]) (g_ret hR (ev_var rfl) ⟨b, rfl, rfl⟩) (List.Sublist.cons₂ _ (List.nil_sublist _))
end
def prE (r : List Str × List Str) : D := .tup [.tup (stD r.1), .tup (stD r.2)]
/-- the part with all of ws as inner lanes -/
noncomputable def pwF (ps : List Str) (es : List Ln) (ws : List Str) : Option (List Str × List Str) := (prL ps es ps).2.find? fun r => ws.all fun x => decide (x ∈ r.2)
noncomputable def pwD (ps : List Str) (es : List Ln) (ws : List Str) : D := match pwF ps es ws with
  | some r => prE r
  | none => .non
def ct_part_with (K : PySem.W.Frag) : Ct := Ct2 fun a b ka out => ∃ ps es ws t, a = .val (NetD K ps es) ∧ Lk [] b t (stD ws) false ∧ ps.Nodup ∧ (∀ r ∈ es, r.2.2 ∈ ps) ∧ (lnN es).Nodup ∧ ps.length ≤ 1000 ∧ es.length ≤ 40000 ∧ ka = [] ∧ out = Rt (pwD ps es ws) []
section
variable {P : Program} {w : World} {K : PySem.W.Frag} {mg : Str → Option Value} {base : Heap}
theorem ok_part_with (T : Tx K mg) (F_first_missing : Fn P w K mg base 4 (He.ga K "first_missing") ["names", "known"] (ct_first_missing K)) (F_parts_of : Fn P w K mg base 6 (He.ga K "parts_of") ["net"] (ct_parts_of K)) : Fn P w K mg base 8 (He.ga K "part_with") ["net", "wanted"] (ct_part_with K) := by
  obtain ⟨fd, F⟩ := T.d_part_with
  refine fn_ok F sc_part_with (fun _ _ _ _ _ _ us hl => match us, hl with | [_, _], _ => rfl) ct2_len (fun cdv A outer s H E hr => ⟨_, (pss_cons (ps_for (passes_of rfl) rfl (pi_seq (pe_call (F_parts_of.up (by decide)).ok hr rfl T.g_parts_of.1 T.g_parts_of.2 (F_parts_of.up (by decide)).bn .nil (pass_own rfl rfl rfl rfl) (pa_cons (pv 0) pa_nil))) (pg_name (i := 2) sc_part_with.nd rfl (by first | exact Or.inl rfl | exact Or.inr rfl)) (pss_one (ps_if (pt_cmpR op_isN1 (pe_call (F_first_missing.up (by decide)).ok hr rfl T.g_first_missing.1 T.g_first_missing.2 (F_first_missing.up (by decide)).bn .nil (pass_own rfl rfl rfl rfl) (pa_cons (pv 1) (pa_cons (pe_ix ix_seq (pv 2) pe_int fun _ _ => rfl) pa_nil))) pe_non (nomark _))
      (pss_one (ps_ret (pv 2)))
      pss_nil)))
      (pss_one (ps_ret pe_non))), fun ws ka out B F0 Q hC hR hX => ?_⟩)
  obtain ⟨a, b, rfl, ps, es, ws, t, rfl, lb, hnd, hps, hn, hl, hel, rfl, rfl⟩ := hC
  have hpd : prD (prL ps es ps).2 = (prL ps es ps).2.map prE := rfl
  have hpw : pwD ps es ws = match (prL ps es ps).2.find? (fun r => ws.all fun x => decide (x ∈ r.2)) with | some r => prE r | none => .non := rfl
  have fo : EvD K (tCall (spC K (ct_parts_of K)) [] E (tCons (tVar 0) tNil)) [some (.val (NetD K ps es)), some b, none] [] (.val (.lst ((prL ps es ps).2.map prE))) [] := (evn_callP (ea1 (ev_var rfl)) ⟨_, rfl, ps, es, rfl, hnd, hps, hn, hl, hel, rfl, rfl⟩).lst
  rw [hpw] at hR
  generalize (prL ps es ps).2 = rs at *
  refine q_forn (ei_map (ts := rs) (f := prE) fo) (fun i ro ka => ∃ v, ro = [some (.val (NetD K ps es)), some b, v] ∧ ka = [] ∧ ∀ r ∈ rs.take i, (ws.all fun x => decide (x ∈ r.2)) = false) ⟨none, rfl, rfl, fun y hy => by cases hy⟩ (fun i ro ka _ => trivial) (fun i w ro2 ka2 ta' hw ⟨v, e1, e2, hs⟩ => ?_) (fun ro2 ka2 ta' ⟨v, e1, e2, hs⟩ _ => ?_)
  · subst e1 e2
    rw [List.getElem?_map] at hw
    obtain ⟨r, hr, rfl⟩ := Option.map_eq_some_iff.mp hw
    refine g_if ((et_test (ev_isN (d := fmD ws r.2) (ev_callP (ea2 (ev_var rfl) (ev_ixV (ev_var rfl) ev_int .vt (atI_nat (j := 1) rfl))) ⟨_, _, rfl, ws, r.2, t, false, lb, .sq .vt, rfl⟩) (.inl rfl))).to (by rw [fm_none])) (fun hb => ?_) (fun hb => g_next (g_jp ⟨_, rfl, rfl, fun y hy => ?_⟩))
    · rw [find_first hs hr hb] at hR
      exact g_ret hR (ev_var rfl) ⟨rfl, rfl⟩
    · rw [take_succ_some hr] at hy
      rcases List.mem_append.mp hy with hy | hy
      · exact hs y hy
      · rw [List.mem_singleton.mp hy]; exact hb
  · subst e1 e2
    rw [List.length_map, List.take_length] at hs
    rw [find_none hs] at hR
    exact g_ret hR ev_non ⟨rfl, rfl⟩
end
def ct_found_part (K : PySem.W.Frag) : Ct := Ct2 fun a b ka out => ∃ ps es ws t r, a = .val (NetD K ps es) ∧ Lk [] b t (stD ws) false ∧ ps.Nodup ∧ (∀ r ∈ es, r.2.2 ∈ ps) ∧ (lnN es).Nodup ∧ ps.length ≤ 1000 ∧ es.length ≤ 40000 ∧ pwF ps es ws = some r ∧ ka = [] ∧ out = Rt (prE r) []
section
variable {P : Program} {w : World} {K : PySem.W.Frag} {mg : Str → Option Value} {base : Heap}
theorem ok_found_part (T : Tx K mg) (F_Net_start_of : Fn P w K mg base 4 (He.ma K (He.ga K "Net") "start_of") ["self", "lane"] (ct_Net_start_of K)) (F_Net_end_of : Fn P w K mg base 4 (He.ma K (He.ga K "Net") "end_of") ["self", "lane"] (ct_Net_end_of K)) (F_reached_posts : Fn P w K mg base 4 (He.ga K "reached_posts") ["net", "start"] (ct_reached_posts K)) (F_part_with : Fn P w K mg base 8 (He.ga K "part_with") ["net", "wanted"] (ct_part_with K)) (Z_NoRound : Xf P w K mg base (He.ga K "NoRound")) : Fn P w K mg base 10 (He.ga K "found_part") ["net", "wanted"] (ct_found_part K) := by
  obtain ⟨fd, F⟩ := T.d_found_part
  refine fn_ok F sc_found_part (fun _ _ _ _ _ _ us hl => match us, hl with | [_, _], _ => rfl) ct2_len (fun cdv A outer s H E hr => ⟨_, (pss_cons (ps_set (i := 2) sc_found_part.nd rfl (by first | exact Or.inl rfl | exact Or.inr rfl) (pe_call (F_part_with.up (by decide)).ok hr rfl T.g_part_with.1 T.g_part_with.2 (F_part_with.up (by decide)).bn .nil (pass_own rfl rfl rfl rfl) (pa_cons (pv 0) (pa_cons (pv 1) pa_nil))))
      (pss_cons (ps_if (pt_cmpR op_notN1 (pv 2) pe_non (nomark _))
      (pss_one (ps_ret (pv 2)))
      pss_nil)
      (pss_cons (ps_for (passes_of rfl) rfl (pi_seq (pv 1)) (pg_name (i := 3) sc_found_part.nd rfl (by first | exact Or.inl rfl | exact Or.inr rfl)) (pss_cons (ps_set (i := 4) sc_found_part.nd rfl (by first | exact Or.inl rfl | exact Or.inr rfl) (pe_call (F_reached_posts.up (by decide)).ok hr rfl T.g_reached_posts.1 T.g_reached_posts.2 (F_reached_posts.up (by decide)).bn .nil (pass_own rfl rfl rfl rfl) (pa_cons (pv 0) (pa_cons (pe_meth (pv 0) T.cl_Net T.me_Net_end_of (F_Net_end_of.up (by decide)).ok hr (F_Net_end_of.up (by decide)).bn .nil (pass_own rfl rfl rfl rfl) (pa_cons (pv 3) pa_nil)) pa_nil))))
      (pss_one (ps_for (passes_of rfl) rfl (pi_seq (pv 1)) (pg_name (i := 5) sc_found_part.nd rfl (by first | exact Or.inl rfl | exact Or.inr rfl)) (pss_one (ps_if (pt_cmpR op_niU (pe_meth (pv 0) T.cl_Net T.me_Net_start_of (F_Net_start_of.up (by decide)).ok hr (F_Net_start_of.up (by decide)).bn .nil (pass_own rfl rfl rfl rfl) (pa_cons (pv 5) pa_nil)) (pv 4) (by with_unfolding_all rfl))
      (pss_one (ps_raise rfl (takes_of rfl rfl rfl rfl) (pmk_oex Z_NoRound.xc.oex Z_NoRound.all.1 Z_NoRound.all.2.1 Z_NoRound.all.2.2.1 (hr.mono (by decide)) Z_NoRound.all.2.2.2 .nil passes_no rfl T.g_NoRound.1 (pa_cons (pv 3) (pa_cons (pv 5) (pa_cons (pv 4) pa_nil))))))
      pss_nil))))))
      (pss_one (ps_ret pe_non))))), fun ws ka out B F0 Q hC hR hX => ?_⟩)
  obtain ⟨a, b, rfl, ps, es, ws, t, r, rfl, lb, hnd, hps, hn, hl, hel, hf, rfl, rfl⟩ := hC
  refine q_asg (w := .val (prE r)) ((ev_callP (ea2 (ev_var rfl) (ev_var rfl)) ⟨_, _, rfl, ps, es, ws, t, rfl, lb, hnd, hps, hn, hl, hel, rfl, rfl⟩).to (by unfold pwD; rw [hf])) ?_
  exact q_when ((et_test (ev_notN (d := prE r) (ev_var rfl) (.inl rfl))).to (b := true) rfl) (fun _ => g_ret hR (ev_var rfl) ⟨rfl, rfl⟩) (fun z => by cases z)
end
/-- the lanes within some posts -/
def innR (es : List Ln) (qs : List Str) : List Ln := es.filter fun r => decide (r.2.1 ∈ qs) && decide (r.2.2 ∈ qs)
theorem innR_nd {es : List Ln} {qs : List Str} (h : (lnN es).Nodup) : (lnN (innR es qs)).Nodup := List.Nodup.sublist ((List.filter_sublist (l := es)).map _) h
theorem innR_sub {es : List Ln} {qs : List Str} {r : Ln} (h : r ∈ innR es qs) : r ∈ es := (List.mem_filter.mp h).1
def ct_inner_ends (K : PySem.W.Frag) : Ct := Ct2 fun a b ka out => ∃ ps es rs, a = .val (NetD K ps es) ∧ b = .val (.tup (stD (lnN rs))) ∧ (lnN es).Nodup ∧ (lnN rs).Nodup ∧ (∀ r ∈ rs, r ∈ es) ∧ rs.length ≤ 50000 ∧ ka = [] ∧ out = Rt (.dic (enD rs)) []
section
variable {P : Program} {w : World} {K : PySem.W.Frag} {mg : Str → Option Value} {base : Heap}
theorem ok_inner_ends (T : Tx K mg) : Fn P w K mg base 4 (He.ga K "inner_ends") ["net", "lanes"] (ct_inner_ends K) := by
  obtain ⟨fd, F⟩ := T.d_inner_ends
  refine fn_ok F sc_inner_ends (fun _ _ _ _ _ _ us hl => match us, hl with | [_, _], _ => rfl) ct2_len (fun cdv A outer s H E hr => ⟨_, (pss_one (ps_ret (pe_dc (tk := (tVar 2)) (tv := (tDGet (tFld K (tVar 0) "ends_by_lane") (tVar 2))) (tt := tYes) (own := [("lane", 2)]) rfl sc_inner_ends.nd (pi_seq (pv 1)) (blk_ok ["net", "lanes", "lane"] (defScope s_inner_ends) rfl rfl (by decide +kernel)) (fun _ _ _ _ _ => (pg_name (i := 2) sc_inner_ends.nd rfl (by first | exact Or.inl rfl | exact Or.inr rfl))) (fun _ _ _ _ _ => pts_nil) (fun _ _ _ _ _ => (pv 2)) (fun _ _ _ _ _ => (pe_dget (hu1 hr) (pe_fld (pv 0) rfl) (pv 2) fun _ _ => rfl))))), fun ws ka out B F0 Q hC hR hX => ?_⟩)
  obtain ⟨a, b, rfl, ps, es, rs, rfl, rfl, hn, hr, hs, hl, rfl, rfl⟩ := hC
  refine g_ret hR ((evr_dc (ei_strsL (ss := lnN rs) (ev_var rfl) .vt) (by decide) (by rw [List.length_map, lnN_len]; omega) (fun i acc k => acc = enD (rs.take i) ∧ k = []) ⟨rfl, rfl⟩ (fun i acc k _ => ⟨trivial, fun _ => trivial⟩) (fun i w acc k hw ⟨e1, e2⟩ => ?_)).dicD (ms := enD rs) fun n k ⟨acc, e1, e2, e3⟩ => ⟨?_, e3⟩) ⟨rfl, rfl⟩
  · subst e1 e2
    rw [List.getElem?_map] at hw
    obtain ⟨x, hx, rfl⟩ := Option.map_eq_some_iff.mp hw
    have hx' : (rs.map (fun r : Ln => r.1))[i]? = some x := hx
    rw [List.getElem?_map] at hx'
    obtain ⟨r, hr2, rfl⟩ := Option.map_eq_some_iff.mp hx'
    exact .inr ⟨_, _, _, .inr r.1, lnD r, et_yes, ev_var rfl, ev_dgetV (ev_fld (ev_var rfl) .v T.cl_Net T.na_Net_ends_by_lane rfl) (ev_var rfl) .v (enD_getm hn (hs r (List.mem_of_getElem? hr2))), enD_take hr hr2, rfl⟩
  · rw [e1, e2, List.length_map, lnN_len, List.take_length]
end
/-- the search, run to its end -/
theorem wy_lanes {ps : List Str} {es : List Ln} {s : Str} (hps : ∀ r ∈ es, r.2.2 ∈ ps) {a : Nat} : ∀ (k j : Nat) (wy : List (Str × List Str)), k = es.length - j → j ≤ es.length → WyIn ps es s a j wy → a < wy.length → ∃ wy', WyIn ps es s a es.length wy' ∧ a < wy'.length
  | 0, j, wy, hk, hj, h, hl => by
    obtain rfl : j = es.length := by omega
    exact ⟨wy, h, hl⟩
  | k + 1, j, wy, hk, hj, h, hl => by
    have hjl : j < es.length := by omega
    have hr : es[j]? = some es[j] := List.getElem?_eq_getElem hjl
    obtain ⟨cur, hcur⟩ : ∃ c, (keysT wy)[a]? = some c := ⟨_, List.getElem?_eq_getElem (by rw [List.length_map]; exact hl)⟩
    by_cases hc : es[j].2.1 = cur ∧ ¬ es[j].2.2 ∈ keysT wy
    · have hm : es[j].2.1 ∈ keysT wy := by rw [hc.1]; exact List.mem_of_getElem? hcur
      obtain ⟨ls, hls⟩ := key_has hm
      exact wy_lanes hps k (j + 1) _ (by omega) hjl (h.add hr hls (hc.1 ▸ hcur) hc.2 (hps _ (List.getElem_mem hjl)) hl) (by rw [List.length_append]; omega)
    · refine wy_lanes hps k (j + 1) wy (by omega) hjl (h.skip hr fun p hp e => ?_) hl
      rw [hcur] at hp
      cases hp
      exact Classical.byContradiction fun z => hc ⟨e, z⟩
theorem wy_run {ps : List Str} {es : List Ln} {s : Str} (hps : ∀ r ∈ es, r.2.2 ∈ ps) : ∀ (k a : Nat) (wy : List (Str × List Str)), k = ps.length - a → WyIn ps es s a 0 wy → WyOk ps es s (wyAll ps es s)
  | k, a, wy, hk, h => by
    by_cases hl : a < wy.length
    · obtain ⟨wy', h', hl'⟩ := wy_lanes hps es.length 0 wy rfl (Nat.zero_le _) h hl
      have hlen := h'.len
      match k, hk with
      | 0, hk => omega
      | k + 1, hk => exact wy_run hps k (a + 1) wy' (by omega) (h'.next hl')
    · have := h.le
      obtain rfl : a = wy.length := by omega
      have := h.fin
      rwa [← this.eq]
theorem wyAll_ok {ps : List Str} {es : List Ln} {s : Str} (hs : s ∈ ps) (hps : ∀ r ∈ es, r.2.2 ∈ ps) : WyOk ps es s (wyAll ps es s) := wy_run hps ps.length 0 _ rfl (.ini hs)
theorem stD_inj : ∀ {xs ys : List Str}, stD xs = stD ys → xs = ys
  | [], [], _ => rfl
  | [], _ :: _, h => by cases h
  | _ :: _, [], h => by cases h
  | x :: xs, y :: ys, h => by
    have h1 := List.cons.inj h
    rw [D.str.inj h1.1, stD_inj h1.2]
/-- the way that the search finds -/
def wyL (ps : List Str) (es : List Ln) (p q : Str) : List Str := match (wyAll ps es p).find? fun kv => decide (kv.1 = q) with
  | some kv => kv.2
  | none => []
theorem wyL_ok {ps : List Str} {es : List Ln} {p q : Str} (hp : p ∈ ps) (hps : ∀ r ∈ es, r.2.2 ∈ ps) (h : Rch es p q) : getD? (wyD (wyAll ps es p)) q = .lst (stD (wyL ps es p q)) ∧ Wk es p (wyL ps es p q) q ∧ (wyL ps es p q).length ≤ ps.length := by
  have ok := wyAll_ok hp hps
  have hk := (ok.all q).mpr h
  obtain ⟨ls, hls⟩ := key_has hk
  have e : wyL ps es p q = ls := by
    unfold wyL
    cases hf : (wyAll ps es p).find? fun kv => decide (kv.1 = q) with
    | none =>
      have := List.find?_eq_none.mp hf _ hls
      exact absurd (decide_eq_true rfl) this
    | some kv =>
      have h1 := List.mem_of_find?_eq_some hf
      have h2 : kv.1 = q := of_decide_eq_true (p := kv.1 = q) (List.find?_some (p := fun kv : Str × List Str => decide (kv.1 = q)) hf)
      have g1 := tb_get (f := fun ls => D.lst (stD ls)) ok.nd (show (q, kv.2) ∈ wyAll ps es p by rw [← h2]; exact h1)
      have g2 := tb_get (f := fun ls => D.lst (stD ls)) ok.nd hls
      rw [g1] at g2
      exact stD_inj (D.lst.inj (Option.some.inj g2))
  rw [e]
  refine ⟨?_, (ok.wk q ls hls).1, ?_⟩
  · unfold getD?
    rw [show getT (wyD (wyAll ps es p)) (.inr q) = some (.lst (stD ls)) from tb_get ok.nd hls]
    rfl
  · have h1 := (ok.wk q ls hls).2
    have h2 := sub_len ok.nd (ys := ps) fun x hx => by
      cases (ok.all x).mp hx with
      | refl => exact hp
      | step _ m e => exact hps _ m
    rw [List.length_map] at h2
    omega
/-- a wanted lane, and the way to the next one -/
def pieceL (ps : List Str) (es : List Ln) (gs : List Str) (i : Nat) : List Str := gs.getD i "" :: wyL ps es (enO es (gs.getD i "")) (stO es (gs.getD ((i + 1) % gs.length) ""))
def twL (ps : List Str) (es : List Ln) (gs : List Str) (n : Nat) : List Str := ((List.range n).map (pieceL ps es gs)).flatten
theorem twL_snoc (ps : List Str) (es : List Ln) (gs : List Str) (n : Nat) : twL ps es gs (n + 1) = twL ps es gs n ++ pieceL ps es gs n := by
  unfold twL
  rw [List.range_succ, List.map_append, List.flatten_append]
  simp
structure TwOk (ps : List Str) (es : List Ln) (gs : List Str) : Prop where
  ne : gs ≠ []
  gl : gs.length ≤ 100
  gm : ∀ g ∈ gs, g ∈ lnN es
  nd : (lnN es).Nodup
  st : ∀ r ∈ es, r.2.1 ∈ ps ∧ r.2.2 ∈ ps
  rc : ∀ r ∈ es, ∀ r' ∈ es, Rch es r.2.2 r'.2.1
  pl : ps.length ≤ 900
  el : es.length ≤ 50000
theorem TwOk.row {ps : List Str} {es : List Ln} {gs : List Str} (h : TwOk ps es gs) {i : Nat} (hi : i < gs.length) : ∃ r ∈ es, gs[i]? = some r.1 ∧ gs.getD i "" = r.1 := by
  obtain ⟨r, hr, e⟩ := List.mem_map.mp (h.gm gs[i] (List.getElem_mem hi))
  exact ⟨r, hr, by rw [List.getElem?_eq_getElem hi, e], by rw [List.getD_eq_getElem?_getD, List.getElem?_eq_getElem hi, ← e]; rfl⟩
theorem TwOk.piece {ps : List Str} {es : List Ln} {gs : List Str} (h : TwOk ps es gs) {i : Nat} (hi : i < gs.length) : ∃ r ∈ es, ∃ r' ∈ es, gs[i]? = some r.1 ∧ gs[(i + 1) % gs.length]? = some r'.1 ∧ pieceL ps es gs i = r.1 :: wyL ps es r.2.2 r'.2.1 ∧ getD? (wyD (wyAll ps es r.2.2)) r'.2.1 = .lst (stD (wyL ps es r.2.2 r'.2.1)) ∧ Wk es r.2.2 (wyL ps es r.2.2 r'.2.1) r'.2.1 ∧ (wyL ps es r.2.2 r'.2.1).length ≤ ps.length := by
  have hp : 0 < gs.length := by omega
  obtain ⟨r, m, e1, e2⟩ := h.row hi
  obtain ⟨r', m', e3, e4⟩ := h.row (Nat.mod_lt (i + 1) hp)
  obtain ⟨w1, w2, w3⟩ := wyL_ok (h.st r m).2 (fun x hx => (h.st x hx).2) (h.rc r m r' m')
  refine ⟨r, m, r', m', e1, e3, ?_, w1, w2, w3⟩
  unfold pieceL
  rw [e2, e4, enO_eq h.nd m, stO_eq h.nd m']
theorem TwOk.len {ps : List Str} {es : List Ln} {gs : List Str} (h : TwOk ps es gs) : ∀ i, i ≤ gs.length → (twL ps es gs i).length ≤ i * (1 + ps.length)
  | 0, _ => Nat.zero_le _
  | i + 1, hi => by
    obtain ⟨r, m, r', m', _, _, e, _, _, l⟩ := h.piece (show i < gs.length by omega)
    have := TwOk.len h i (by omega)
    rw [twL_snoc, List.length_append, e, List.length_cons, Nat.add_mul, Nat.one_mul]
    omega
def ct_closed_walk (K : PySem.W.Frag) : Ct := Ct2 fun a b ka out => ∃ ps es gs, a = .val (.dic (enD es)) ∧ b = .val (.tup (stD gs)) ∧ TwOk ps es gs ∧ ka = [] ∧ out = Rt (.lst (stD (twL ps es gs gs.length))) []
section
variable {P : Program} {w : World} {K : PySem.W.Frag} {mg : Str → Option Value} {base : Heap}
theorem ok_closed_walk (T : Tx K mg) (F_shortest_way : Fn P w K mg base 4 (He.ga K "shortest_way") ["ends_by_lane", "first", "second"] (ct_shortest_way K)) : Fn P w K mg base 6 (He.ga K "closed_walk") ["ends", "wanted"] (ct_closed_walk K) := by
  obtain ⟨fd, F⟩ := T.d_closed_walk
  refine fn_ok F sc_closed_walk (fun _ _ _ _ _ _ us hl => match us, hl with | [_, _], _ => rfl) ct2_len (fun cdv A outer s H E hr => ⟨_, (pss_cons (ps_set (i := 2) sc_closed_walk.nd rfl (by first | exact Or.inl rfl | exact Or.inr rfl) (pe_lst pa_nil))
      (pss_cons (ps_for (passes_of rfl) rfl (pi_enumU rfl T.n_enumerate (pa_cons (pv 1) pa_nil)) (pg_tup rfl (pgs_cons (pg_name (i := 3) sc_closed_walk.nd rfl (by first | exact Or.inl rfl | exact Or.inr rfl)) (pgs_cons (pg_name (i := 4) sc_closed_walk.nd rfl (by first | exact Or.inl rfl | exact Or.inr rfl)) pgs_nil))) (pss_cons (ps_set (i := 5) sc_closed_walk.nd rfl (by first | exact Or.inl rfl | exact Or.inr rfl) (pe_ix ix_seq (pv 1) (pe_op op_mod (pe_op op_addU (pv 3) pe_int) (pe_callB call_lenU rfl T.n_len (by decide +kernel) (pa_cons (pv 1) pa_nil))) fun _ _ => rfl))
      (pss_one (ps_set (i := 2) sc_closed_walk.nd rfl (by first | exact Or.inl rfl | exact Or.inr rfl) (pe_op op_addU (pe_op op_addU (pv 2) (pe_lst (pa_cons (pv 4) pa_nil))) (pe_call (F_shortest_way.up (by decide)).ok hr rfl T.g_shortest_way.1 T.g_shortest_way.2 (F_shortest_way.up (by decide)).bn .nil (pass_own rfl rfl rfl rfl) (pa_cons (pv 0) (pa_cons (pe_ix ix_seq (pe_dget (hu1 hr) (pv 0) (pv 4) fun _ _ => rfl) pe_int fun _ _ => rfl) (pa_cons (pe_ix ix_seq (pe_dget (hu1 hr) (pv 0) (pv 5) fun _ _ => rfl) pe_int fun _ _ => rfl) pa_nil)))))))))
      (pss_one (ps_ret (pv 2))))), fun ws ka out B F0 Q hC hR hX => ?_⟩)
  obtain ⟨a, b, rfl, ps, es, gs, rfl, rfl, h, rfl, rfl⟩ := hC
  have hgl := h.gl
  have hpl := h.pl
  refine q_asg (w := .val (.lst (stD []))) (evn_lst (ds := stD []) ea_nil (by decide)).lst ?_
  refine q_forT (ei_enumU (ds := stD gs) (ev_var rfl) .vt) (fun i ro ka => ∃ (v v2 v3 : Option W), ro = [some (.val (.dic (enD es))), some (.val (.tup (stD gs))), some (.val (.lst (stD (twL ps es gs i)))), v, v2, v3] ∧ ka = []) ⟨_, _, _, rfl, rfl⟩ (fun i ro ka _ => trivial) (fun i w ro2 ka2 ta' hw ⟨v, v2, v3, e1, e2⟩ => ?_) (fun ro2 ka2 ta' ⟨v, v2, v3, e1, e2⟩ _ => ?_)
  · subst e1 e2
    rw [List.getElem?_map] at hw
    obtain ⟨i', hi', rfl⟩ := Option.map_eq_some_iff.mp hw
    obtain ⟨hi1, hi2⟩ := List.getElem?_eq_some_iff.mp hi'
    rw [List.getElem_range] at hi2
    subst hi2
    rw [List.length_range, stD_len] at hi1
    obtain ⟨r, m, r', m', g1, g2, pe, wd, _, wl⟩ := h.piece hi1
    have hg : (stD gs).getD i .non = .str r.1 := by rw [List.getD_eq_getElem?_getD, stD_get g1]; rfl
    rw [hg]
    have hlen := h.len i (by omega)
    have hlen2 : i * (1 + ps.length) ≤ 99 * 901 := Nat.mul_le_mul (by omega) (by omega)
    have hmod : (((i : Int) + 1) % ((stD gs).length : Nat)) = (((i + 1) % gs.length : Nat) : Int) := by rw [stD_len]; push_cast; rfl
    have e1 : (stD [r.1]).length = 1 := rfl
    refine ⟨_, at_t2, q_asg (w := .val (.str r'.1)) ((ev_ixV (ev_var rfl) ((ev_modI (ev_addI (ev_var rfl) ev_int) (ev_len (ev_var rfl) .vt) (by rw [stD_len]; omega)).to (by rw [hmod])) .vt (atI_nat (stD_get g2)))) (g_asg ?_ (g_jp ⟨_, _, _, rfl, rfl⟩))⟩
    rw [twL_snoc, pe]
    have f1 := (evn_op (K := K) (te := tVar 2) (tf := tLst (tCons (tVar 4) tNil)) (ro := [some (.val (.dic (enD es))), some (.val (.tup (stD gs))), some (.val (.lst (stD (twL ps es gs i)))), some (.val (.int i)), some (.val (.str r.1)), some (.val (.str r'.1))]) (ka := []) (ev_var rfl) (evn_lst (ds := stD [r.1]) (ea1 (ev_var rfl)) (show 1 ≤ 100000 by decide)).lst (rvn_cat (b1 := false) (b2 := false) .vl .vl (by rw [stD_len]; omega))).lst.to (congrArg (fun z => W.val (.lst z)) (stD_app _ _))
    refine (evn_op f1 (EvD.to (ev_callP (ea3 (ev_var rfl) (ev_ixV (ev_dgetV (d := lnD r) (ev_var rfl) (ev_var rfl) .v (enD_getm h.nd m)) ev_int .vt (atI_nat (j := 1) rfl)) (ev_ixV (ev_dgetV (d := lnD r') (ev_var rfl) (ev_var rfl) .v (enD_getm h.nd m')) ev_int .vt (atI_nat (j := 0) rfl))) ⟨_, _, _, rfl, ps, es, r.2.2, r'.2.1, rfl, rfl, rfl, (h.st r m).2, fun x hx => (h.st x hx).2, h.nd, by omega, h.el, rfl, rfl⟩) (congrArg W.val wd)) (rvn_cat (b1 := false) (b2 := false) .vl .vl (by rw [stD_len, stD_len, List.length_append, List.length_singleton]; omega))).lst.to (congrArg (fun z => W.val (.lst z)) ?_)
    rw [stD_app, List.append_assoc]
    rfl
  · subst e1 e2
    rw [List.length_map, List.length_range, stD_len] at *
    exact g_ret hR (ev_var rfl) ⟨rfl, rfl⟩
end
/-- an object of wanted lanes as data, as cells -/
def AskD (K : PySem.W.Frag) (ps : List Str) (es : List Ln) (gs : List Str) : D := .ins (He.ga K "Asked") [("base", NetD K ps es), ("goal", .tup (stD gs))]
def AskC (K : PySem.W.Frag) (a n o d : Addr) (ps : List Str) (es : List Ln) (gs : List Str) : Cells := NetC K n o d ps es ++ [(a, .ins (He.ga K "Asked") [("base", .adr n), ("goal", .tup (stD gs))])]
theorem frz_ask {K : PySem.W.Frag} {kt : Cells} {a n o d : Addr} {ps : List Str} {es : List Ln} {gs : List Str} (h : ∀ p ∈ AskC K a n o d ps es gs, p ∈ kt) : FrzD K kt a (AskD K ps es gs) :=
  frz_i (h _ (List.mem_append_right _ List.mem_cons_self)) ⟨_, _, rfl, .a (frz_net fun p hp => h p (List.mem_append_left _ hp)), _, _, rfl, .s _, rfl⟩
theorem ask_kd {K : PySem.W.Frag} {a n o d : Addr} {ps : List Str} {es : List Ln} {gs : List Str} : ∀ p ∈ AskC K a n o d ps es gs, ndK p.2 = true := fun p hp => by
  rcases List.mem_append.mp hp with hp | hp
  · exact net_kd p hp
  · rw [List.mem_singleton.mp hp]; rfl
theorem ask_ndI {K : PySem.W.Frag} {a n o d : Addr} {ps : List Str} {es : List Ln} {gs : List Str} : ∀ p ∈ AskC K a n o d ps es gs, ndI p.2 = true := fun p hp => by
  rcases List.mem_append.mp hp with hp | hp
  · exact net_ndI p hp
  · rw [List.mem_singleton.mp hp]
    show (tI (.adr n) && (tIL (stD gs) && true)) = true
    rw [tIL_stD]
    rfl
/-- the wanted lanes in the order of the net -/
def goalL (es : List Ln) (ws : List Str) : List Str := (lnN es).filter fun l => decide (l ∈ ws)
def ct_Asked___init (K : PySem.W.Frag) : Ct := Ct3 fun s b c ka out => ∃ a ps es ws t, s = .val (.adr a) ∧ ka = [(a, .ins (He.ga K "Asked") [])] ∧ b = .val (NetD K ps es) ∧ Lk [] c t (stD ws) false ∧ ps.length ≤ 50000 ∧ es.length ≤ 50000 ∧ (lnN es).Nodup ∧
  out = if ws = [] then X0 (He.ga K "NothingWanted") [] else match ws.find? (fun x => !decide (x ∈ lnN es)) with
    | some x => Xt (He.ga K "NoLane") [("name", .str x)] []
    | none => fun o' k => ∃ n o d, o' = .ret .non ∧ k = AskC K a n o d ps es (goalL es ws)
section
variable {P : Program} {w : World} {K : PySem.W.Frag} {mg : Str → Option Value} {base : Heap}
theorem ok_Asked___init (T : Tx K mg) (F_first_missing : Fn P w K mg base 4 (He.ga K "first_missing") ["names", "known"] (ct_first_missing K)) (F_Net_lanes : Fn P w K mg base 4 (pga K (He.ga K "Net") "lanes") ["self"] (ct_Net_lanes K)) (F_Net_copy : Fn P w K mg base 6 (He.ma K (He.ga K "Net") "copy") ["self"] (ct_Net_copy K)) (Z_NoLane : Xn P w K mg base (He.ga K "NoLane") "name") : Fn P w K mg base 8 (He.ma K (He.ga K "Asked") "__init__") ["self", "net", "wanted"] (ct_Asked___init K) := by
  obtain ⟨fd, F⟩ := T.d_Asked___init
  refine fn_ok F sc_Asked___init (fun _ _ _ _ _ _ us hl => match us, hl with | [_, _, _], _ => rfl) ct3_len (fun cdv A outer s H E hr => ⟨_, (pss_cons (ps_if (pt_cmpR (op_eqP (by have := (hr).units; exact this)) (pe_callB call_lenU rfl T.n_len (by decide +kernel) (pa_cons (pv 2) pa_nil)) pe_int (nomark _))
      (pss_one (ps_raise rfl (takes_of rfl rfl rfl rfl) (pmk_zero PySem.F.excBase_ValueError T.x0_NothingWanted.1 T.g_NothingWanted.1 T.x0_NothingWanted.2.1 (raises_own T.x0_NothingWanted.2.2.1 T.x0_NothingWanted.2.2.2) rfl)))
      pss_nil)
      (pss_cons (ps_set (i := 3) sc_Asked___init.nd rfl (by first | exact Or.inl rfl | exact Or.inr rfl) (pe_call (F_first_missing.up (by decide)).ok hr rfl T.g_first_missing.1 T.g_first_missing.2 (F_first_missing.up (by decide)).bn .nil (pass_own rfl rfl rfl rfl) (pa_cons (pv 2) (pa_cons (pe_fld (pv 1) rfl) pa_nil))))
      (pss_cons (ps_if (pt_cmpR op_notN1 (pv 3) pe_non (nomark _))
      (pss_one (ps_raise rfl (takes_of rfl rfl rfl rfl) (pmk_oex Z_NoLane.xc.oex Z_NoLane.all.1 Z_NoLane.all.2.1 Z_NoLane.all.2.2.1 (hr.mono (by decide)) Z_NoLane.all.2.2.2 .nil passes_no rfl T.g_NoLane.1 (pa_cons (pv 3) pa_nil))))
      pss_nil)
      (pss_cons (ps_fld (pv 0) (pe_meth0 (pv 1) T.cl_Net T.me_Net_copy (F_Net_copy.up (by decide)).ok hr (F_Net_copy.up (by decide)).bn .nil (pass_own rfl rfl rfl rfl)) rfl)
      (pss_one (ps_fld (pv 0) (pe_callTy call_tupU rfl T.n_tuple (by decide +kernel) (pa_cons (pe_lc (te := (tVar 4)) (tt := (tTest (tOp (rInU K) (tVar 4) (tVar 2)))) (own := [("lane", 4)]) rfl sc_Asked___init.nd (pi_seq (pe_prop (pv 1) T.cl_Net T.pr_Net_lanes (F_Net_lanes.up (by decide)).ok hr (F_Net_lanes.up (by decide)).bn .nil passes_no rfl)) (blk_ok ["self", "net", "wanted", "missing", "lane"] (defScope s_Asked___init) rfl rfl (by decide +kernel)) (fun _ _ _ _ _ => (pg_name (i := 4) sc_Asked___init.nd rfl (by first | exact Or.inl rfl | exact Or.inr rfl))) (fun _ _ _ _ _ => (pts_one (pt_cmpR op_inU (pv 4) (pv 2) (by with_unfolding_all rfl)))) (fun _ _ _ _ _ => (pv 4))) pa_nil)) rfl)))))), fun ws ka out B F0 Q hC hR hX => ?_⟩)
  obtain ⟨s, b, c, rfl, a, ps, es, ws, t, rfl, rfl, rfl, lw, hl, hel, hn, rfl⟩ := hC
  have la := lw.app (kr := [(a, .ins (He.ga K "Asked") [])])
  cases ws with
  | nil => exact q_when ((et_test (ev_eqI (ev_len (ev_var rfl) la) ev_int)).to (b := true) rfl) (fun _ => Gp.less (k1 := []) (g_raise0 hX ⟨rfl, rfl⟩) (List.nil_sublist _)) (fun z => by cases z)
  | cons w0 wt =>
  refine q_when ((et_test (ev_eqI (ev_len (ev_var rfl) la) ev_int)).to (b := false) rfl) (fun z => by cases z) (fun _ => ?_)
  rw [if_neg (fun z => by cases z)] at hR hX
  refine q_asg (w := .val (fmD (w0 :: wt) (lnN es))) (ev_callP (ea2 (ev_var rfl) (ev_fld (ev_var rfl) .v T.cl_Net T.na_Net_ends_by_lane rfl)) ⟨_, _, rfl, w0 :: wt, lnN es, t, false, lw, .dc .v (fun s => enD_in es s), rfl⟩) ?_
  cases hf : (w0 :: wt).find? (fun x => !decide (x ∈ lnN es)) with
  | some x =>
    rw [hf] at hX
    have e1 : fmD (w0 :: wt) (lnN es) = .str x := by unfold fmD; rw [hf]
    rw [e1]
    exact q_when ((et_test (ev_notN (d := .str x) (ev_var rfl) (.inl rfl))).to (b := true) rfl) (fun _ => Gp.less (k1 := []) (g_raise1 hX (ea1 (ev_var rfl)) Z_NoLane.xc.oex Z_NoLane.no ⟨rfl, rfl⟩) (List.nil_sublist _)) (fun z => by cases z)
  | none =>
  rw [hf] at hR
  have e1 : fmD (w0 :: wt) (lnN es) = .non := by unfold fmD; rw [hf]
  rw [e1]
  refine q_when ((et_test (ev_notN (d := .non) (ev_var rfl) (.inl rfl))).to (b := false) rfl) (fun z => by cases z) (fun _ => ?_)
  refine q_fldR (C := He.ga K "Asked") (a := a) (evr_meth (k1 := [(a, .ins (He.ga K "Asked") [])]) (k2 := []) [(a, .ins (He.ga K "Asked") [])] (ev_var rfl) .v rfl ea_nil ⟨_, rfl, ps, es, rfl, hl, hel, hn, rfl, rfl⟩ (fun o k ⟨n, o2, d, e, _⟩ => ⟨_, e⟩)) T.cl_Asked T.na_Asked_base (fun w k1 ⟨dd, k3, ⟨n, o, d, e2, e3⟩, e4, e5⟩ => ?_)
  cases e2
  subst e3 e4 e5
  refine ⟨.adr n, _, 3, [], rfl, ev_var rfl, rfl, by decide, ?_⟩
  have lb := lw.app (kr := NetC K n o d ps es ++ [(a, .ins (He.ga K "Asked") [("base", .adr n)])])
  refine g_fld (j := 3) (a := a) (fs := [("base", .adr n)]) (d := .tup (stD (goalL es (w0 :: wt)))) (ev_cb (ea1 ((evn_filt (xs := lnN es) (g := fun s => W.val (.str s)) (f := fun s => D.str s) (p := fun l => decide (l ∈ w0 :: wt)) (ei_strsL (ev_prop (k1 := []) (NetC K n o d ps es ++ [(a, .ins (He.ga K "Asked") [("base", .adr n)])]) (ev_var rfl) .v ⟨_, rfl, ps, es, rfl, hel, rfl, rfl⟩ fun _ _ z => z) .vt) (by decide) (by rw [lnN_len]; omega) ⟨trivial, fun _ => trivial⟩ (fun l hl => et_test (ev_inL (ev_var rfl) (ev_var rfl) lb)) (fun l hl _ => ev_var rfl)).lst)) (rc_tupL .vl (sqf_stD _ _))) (ev_var rfl) rfl T.cl_Asked T.na_Asked_goal (show 1 < 900 by decide) (g_end hR ⟨n, o, d, rfl, rfl⟩)
end
def ct_Asked_net (K : PySem.W.Frag) : Ct := Ct1 fun s ka out => ∃ ps es gs, s = .val (AskD K ps es gs) ∧ ps.length ≤ 50000 ∧ es.length ≤ 50000 ∧ (lnN es).Nodup ∧ ka = [] ∧ out = fun o' k => ∃ a o d, o' = .ret (.adr a) ∧ k = NetC K a o d ps es
section
variable {P : Program} {w : World} {K : PySem.W.Frag} {mg : Str → Option Value} {base : Heap}
theorem ok_Asked_net (T : Tx K mg) (F_Net___init : FnE P w K mg base 4 (He.ma K (He.ga K "Net") "__init__") ["self", "order", "ends_by_lane"] [.ref (He.dflAt ("Net", some "__init__") 0 K), .non] (ct_Net___init K)) : Fn P w K mg base 6 (pga K (He.ga K "Asked") "net") ["self"] (ct_Asked_net K) := by
  obtain ⟨fd, F⟩ := T.d_Asked_net
  refine fn_ok F sc_Asked_net (fun _ _ _ _ _ _ us hl => match us, hl with | [_], _ => rfl) ct1_len (fun cdv A outer s H E hr => ⟨_, (pss_one (ps_ret (pe_make T.mk_Net (F_Net___init.a.up (by decide)).ok hr rfl T.g_Net.1 (F_Net___init.a.up (by decide)).bn .nil (pass_own rfl rfl rfl rfl) (pa_cons (pe_fld (pe_fld (pv 0) rfl) rfl) (pa_cons (pe_fld (pe_fld (pv 0) rfl) rfl) pa_nil))))), fun ws ka out B F0 Q hC hR hX => ?_⟩)
  obtain ⟨s, rfl, ps, es, gs, rfl, hl, hel, hn, rfl, rfl⟩ := hC
  refine g_retE (Q := fun w k => ∃ a o d, w = .val (.adr a) ∧ k = NetC K a o d ps es) hR (evr_make (wd := []) (k1 := []) (ea2 (ev_fld (ev_fld (ev_var rfl) .v T.cl_Asked T.na_Asked_base rfl) .v T.cl_Net T.na_Net_order rfl) (ev_fld (ev_fld (ev_var rfl) .v T.cl_Asked T.na_Asked_base rfl) .v T.cl_Net T.na_Net_ends_by_lane rfl)) dv_nil (fun a => ⟨_, ⟨_, _, _, rfl, a, false, false, ps, es, rfl, rfl, .vl, hl, hel, hn, .inr rfl, rfl⟩, fun o k ⟨o2, d, e1, e2⟩ => ⟨e1, a, o2, d, rfl, e2⟩⟩)) (fun w k ⟨a, o, d, e1, e2⟩ => ⟨.adr a, e1, a, o, d, rfl, e2⟩)
end
theorem TwOk.nm {ps : List Str} {es : List Ln} {gs : List Str} (h : TwOk ps es gs) : ∀ n, n ≤ gs.length → ∀ x ∈ twL ps es gs n, x ∈ lnN es
  | 0, _, x, hx => by cases hx
  | n + 1, hn, x, hx => by
    rw [twL_snoc] at hx
    rcases List.mem_append.mp hx with hx | hx
    · exact TwOk.nm h n (by omega) x hx
    · obtain ⟨r, m, r', m', _, _, e, _, w, _⟩ := h.piece (show n < gs.length by omega)
      rw [e] at hx
      rcases List.mem_cons.mp hx with rfl | hx
      · exact List.mem_map.mpr ⟨r, m, rfl⟩
      · exact wk_in w x hx
where
  wk_in {es : List Ln} {q : Str} : ∀ {ls : List Str} {p : Str}, Wk es p ls q → ∀ x ∈ ls, x ∈ lnN es
    | [], _, _, x, hx => by cases hx
    | y :: t, _, ⟨r, m, e1, _, h⟩, x, hx => by
      rcases List.mem_cons.mp hx with rfl | hx
      · exact List.mem_map.mpr ⟨r, m, e1⟩
      · exact wk_in h x hx
theorem TwOk.ne' {ps : List Str} {es : List Ln} {gs : List Str} (h : TwOk ps es gs) : twL ps es gs gs.length ≠ [] := fun z => by
  have hp := List.length_pos_iff.mpr h.ne
  obtain ⟨n, hn⟩ : ∃ n, gs.length = n + 1 := ⟨gs.length - 1, by omega⟩
  rw [hn, twL_snoc] at z
  have := (List.append_eq_nil_iff.mp z).2
  unfold pieceL at this
  cases this
def ct_Asked_round (K : PySem.W.Frag) : Ct := Ct1 fun s ka out => ∃ ps es gs q, s = .val (AskD K ps es gs) ∧ ps.Nodup ∧ (∀ r ∈ es, r.2.2 ∈ ps) ∧ (lnN es).Nodup ∧ (∀ x ∈ lnN es, isNm x = true) ∧ ps.length ≤ 400 ∧ es.length ≤ 40000 ∧ pwF ps es gs = some q ∧ q.2 = innL es q.1 ∧ TwOk ps (innR es q.1) gs ∧ ka = [] ∧ out = Rt (RD K (stD (twL ps (innR es q.1) gs gs.length))) []
section
variable {P : Program} {w : World} {K : PySem.W.Frag} {mg : Str → Option Value} {base : Heap}
theorem ok_Asked_round (T : Tx K mg) (F_Round___init : Fn P w K mg base 8 (He.ma K (He.ga K "Round") "__init__") ["self", "lanes"] (ct_Round___init K)) (F_found_part : Fn P w K mg base 10 (He.ga K "found_part") ["net", "wanted"] (ct_found_part K)) (F_inner_ends : Fn P w K mg base 4 (He.ga K "inner_ends") ["net", "lanes"] (ct_inner_ends K)) (F_closed_walk : Fn P w K mg base 6 (He.ga K "closed_walk") ["ends", "wanted"] (ct_closed_walk K)) : Fn P w K mg base 12 (He.ma K (He.ga K "Asked") "round") ["self"] (ct_Asked_round K) := by
  obtain ⟨fd, F⟩ := T.d_Asked_round
  refine fn_ok F sc_Asked_round (fun _ _ _ _ _ _ us hl => match us, hl with | [_], _ => rfl) ct1_len (fun cdv A outer s H E hr => ⟨_, (pss_cons (ps_asg (pe_call (F_found_part.up (by decide)).ok hr rfl T.g_found_part.1 T.g_found_part.2 (F_found_part.up (by decide)).bn .nil (pass_own rfl rfl rfl rfl) (pa_cons (pe_fld (pv 0) rfl) (pa_cons (pe_fld (pv 0) rfl) pa_nil))) (pg_tup rfl (pgs_cons (pg_name (i := 1) sc_Asked_round.nd rfl (by first | exact Or.inl rfl | exact Or.inr rfl)) (pgs_cons (pg_name (i := 2) sc_Asked_round.nd rfl (by first | exact Or.inl rfl | exact Or.inr rfl)) pgs_nil))))
      (pss_one (ps_ret (pe_make T.mk_Round (F_Round___init.up (by decide)).ok hr rfl T.g_Round.1 (F_Round___init.up (by decide)).bn .nil (pass_own rfl rfl rfl rfl) (pa_cons (pe_call (F_closed_walk.up (by decide)).ok hr rfl T.g_closed_walk.1 T.g_closed_walk.2 (F_closed_walk.up (by decide)).bn .nil (pass_own rfl rfl rfl rfl) (pa_cons (pe_call (F_inner_ends.up (by decide)).ok hr rfl T.g_inner_ends.1 T.g_inner_ends.2 (F_inner_ends.up (by decide)).bn .nil (pass_own rfl rfl rfl rfl) (pa_cons (pe_fld (pv 0) rfl) (pa_cons (pv 2) pa_nil))) (pa_cons (pe_fld (pv 0) rfl) pa_nil))) pa_nil))))), fun ws ka out B F0 Q hC hR hX => ?_⟩)
  obtain ⟨s, rfl, ps, es, gs, q, rfl, hnd, hps, hn, hnm, hl, hel, hf, hq, htw, rfl, rfl⟩ := hC
  have fb : ∀ {ro : Ro}, ro[0]? = some (some (.val (AskD K ps es gs))) → EvD K (tFld K (tVar 0) "base") ro [] (.val (NetD K ps es)) [] := fun h => ev_fld (ev_var h) .v T.cl_Asked T.na_Asked_base rfl
  have fg : ∀ {ro : Ro}, ro[0]? = some (some (.val (AskD K ps es gs))) → EvD K (tFld K (tVar 0) "goal") ro [] (.val (.tup (stD gs))) [] := fun h => ev_fld (ev_var h) .v T.cl_Asked T.na_Asked_goal rfl
  refine q_asgT (w := .val (prE q)) (ev_callP (ea2 (fb rfl) (fg rfl)) ⟨_, _, rfl, ps, es, gs, true, q, rfl, .vt, hnd, hps, hn, by omega, hel, hf, rfl, rfl⟩) at_t2 ?_
  have hlen := htw.len gs.length (Nat.le_refl _)
  have hg := htw.gl
  have hlen2 : gs.length * (1 + ps.length) ≤ 100 * 401 := Nat.mul_le_mul hg (by omega)
  have hi : q.2 = lnN (innR es q.1) := hq
  have hil : (innR es q.1).length ≤ es.length := List.length_filter_le _ _
  exact g_ret hR (ev_round (ev_callP (ea2 (ev_callP (ea2 (fb rfl) (ev_var rfl)) ⟨_, _, rfl, ps, es, innR es q.1, rfl, by rw [hi], hn, innR_nd hn, fun r h => innR_sub h, by omega, rfl, rfl⟩) (fg rfl)) ⟨_, _, rfl, ps, innR es q.1, gs, rfl, rfl, htw, rfl, rfl⟩) .vl (fun z => by cases z) (sqf_stD _ _) ⟨htw.ne', by omega, fun x hx => by
    obtain ⟨r, m, e⟩ := List.mem_map.mp (htw.nm gs.length (Nat.le_refl _) x hx)
    exact hnm x (List.mem_map.mpr ⟨r, innR_sub m, e⟩)⟩) ⟨rfl, rfl⟩
end
def ct_Asked___bool (K : PySem.W.Frag) : Ct := Ct1 fun s ka out => ∃ ps es gs, s = .val (AskD K ps es gs) ∧ ps.Nodup ∧ (∀ r ∈ es, r.2.2 ∈ ps) ∧ (lnN es).Nodup ∧ ps.length ≤ 1000 ∧ es.length ≤ 40000 ∧ ka = [] ∧ out = Rt (.bl (pwF ps es gs).isSome) []
section
variable {P : Program} {w : World} {K : PySem.W.Frag} {mg : Str → Option Value} {base : Heap}
theorem ok_Asked___bool (T : Tx K mg) (F_part_with : Fn P w K mg base 8 (He.ga K "part_with") ["net", "wanted"] (ct_part_with K)) : Fn P w K mg base 10 (He.ma K (He.ga K "Asked") "__bool__") ["self"] (ct_Asked___bool K) := by
  obtain ⟨fd, F⟩ := T.d_Asked___bool
  refine fn_ok F sc_Asked___bool (fun _ _ _ _ _ _ us hl => match us, hl with | [_], _ => rfl) ct1_len (fun cdv A outer s H E hr => ⟨_, (pss_one (ps_ret (pe_cmpR op_notN1 (pe_call (F_part_with.up (by decide)).ok hr rfl T.g_part_with.1 T.g_part_with.2 (F_part_with.up (by decide)).bn .nil (pass_own rfl rfl rfl rfl) (pa_cons (pe_fld (pv 0) rfl) (pa_cons (pe_fld (pv 0) rfl) pa_nil))) pe_non (nomark _)))), fun ws ka out B F0 Q hC hR hX => ?_⟩)
  obtain ⟨s, rfl, ps, es, gs, rfl, hnd, hps, hn, hl, hel, rfl, rfl⟩ := hC
  refine g_ret hR ((ev_notN (d := pwD ps es gs) (ev_callP (ea2 (ev_fld (ev_var rfl) .v T.cl_Asked T.na_Asked_base rfl) (ev_fld (ev_var rfl) .v T.cl_Asked T.na_Asked_goal rfl)) ⟨_, _, rfl, ps, es, gs, true, rfl, .vt, hnd, hps, hn, hl, hel, rfl, rfl⟩) (.inl rfl)).to ?_) ⟨rfl, rfl⟩
  unfold pwD
  cases pwF ps es gs <;> rfl
end
theorem Rch.trans {es : List Ln} {p q z : Str} (a : Rch es p q) (b : Rch es q z) : Rch es p z := by
  induction b with
  | refl => exact a
  | step _ m e ih => exact .step ih m e
theorem Wk.rows {es : List Ln} {q : Str} : ∀ {ls : List Str} {p : Str}, Wk es p ls q → ∀ l ∈ ls, ∃ r ∈ es, r.1 = l ∧ Rch es p r.2.1 ∧ Rch es r.2.2 q
  | [], _, _, l, h => by cases h
  | x :: ls, p, ⟨r, m, e1, e2, h⟩, l, hl => by
    rcases List.mem_cons.mp hl with rfl | hl
    · exact ⟨r, m, e1, e2 ▸ .refl, Wk.rch .refl h⟩
    · obtain ⟨r', m', e1', a, b⟩ := Wk.rows h l hl
      exact ⟨r', m', e1', (Rch.step (x := p) .refl m e2).trans a, b⟩
theorem Wk.first {es : List Ln} {p q l : Str} {ls : List Str} (h : Wk es p (l :: ls) q) : ∃ r ∈ es, r.1 = l ∧ r.2.1 = p := let ⟨r, m, e1, e2, _⟩ := h; ⟨r, m, e1, e2⟩
/-- one reaches the other, both ways -/
def Mt (es : List Ln) (p q : Str) : Prop := Rch es p q ∧ Rch es q p
theorem mem_mutL {ps : List Str} {es : List Ln} {p q : Str} (hp : p ∈ ps) : q ∈ mutL ps es p ↔ q ∈ ps ∧ Mt es p q := by
  classical
  rw [← mutL_eq ps es p hp, List.mem_filter, Bool.and_eq_true]
  constructor
  · rintro ⟨a, b, c⟩
    exact ⟨a, of_decide_eq_true b, of_decide_eq_true c⟩
  · rintro ⟨a, b, c⟩
    exact ⟨a, decide_eq_true b, decide_eq_true c⟩
theorem ln_uniq {es : List Ln} (hn : (lnN es).Nodup) {r r' : Ln} (h : r ∈ es) (h' : r' ∈ es) (e : r.1 = r'.1) : r = r' := by
  obtain ⟨i, hi⟩ := List.mem_iff_getElem?.mp h
  obtain ⟨j, hj⟩ := List.mem_iff_getElem?.mp h'
  have hij : i = j := by
    have h1 := lnN_at hi
    have h2 := lnN_at hj
    rw [e] at h1
    exact (List.getElem?_inj (List.getElem?_eq_some_iff.mp h1).1 hn).mp (h1.trans h2.symm)
  subst hij
  rw [hi] at hj
  exact Option.some.inj hj
/-- a closed walk lies in just the part of its posts -/
theorem holds_iff {ps : List Str} {es : List Ln} (ok : PtOk ps es) {q : Str} {l : Str} {ls : List Str} (hw : Wk es q (l :: ls) q) {p : Str} (hp : p ∈ ps) : (∀ x ∈ l :: ls, x ∈ innL es (mutL ps es p)) ↔ Mt es p q := by
  constructor
  · intro h
    have hl := h l List.mem_cons_self
    obtain ⟨r, hr, e⟩ := List.mem_map.mp (show l ∈ lnN _ from hl)
    obtain ⟨hr1, hr2⟩ := List.mem_filter.mp hr
    rw [Bool.and_eq_true, decide_eq_true_eq, decide_eq_true_eq] at hr2
    obtain ⟨r0, m0, e0, e1⟩ := hw.first
    have := ln_uniq ok.ed hr1 m0 (e.trans e0.symm)
    subst this
    rw [e1] at hr2
    exact ((mem_mutL hp).mp hr2.1).2
  · intro h x hx
    obtain ⟨r, m, e, a, b⟩ := hw.rows x hx
    have hs := ok.st r m
    have st : Rch es r.2.1 r.2.2 := .step .refl m rfl
    have m1 : r.2.1 ∈ mutL ps es p := (mem_mutL hp).mpr ⟨hs.1, h.1.trans a, (st.trans b).trans h.2⟩
    have m2 : r.2.2 ∈ mutL ps es p := (mem_mutL hp).mpr ⟨hs.2, (h.1.trans a).trans st, b.trans h.2⟩
    exact List.mem_map.mpr ⟨r, List.mem_filter.mpr ⟨m, by rw [decide_eq_true m1, decide_eq_true m2]; rfl⟩, e⟩
/-- all of ls lie in the part -/
def hldB (ls : List Str) (r : List Str × List Str) : Bool := decide ((ls.filter fun l => !decide (l ∈ r.2)) = [])
theorem hldB_iff {ls : List Str} {r : List Str × List Str} : hldB ls r = true ↔ ∀ x ∈ ls, x ∈ r.2 := by
  unfold hldB
  rw [decide_eq_true_eq, List.filter_eq_nil_iff]
  constructor
  · intro h x hx
    have := h x hx
    simpa using this
  · intro h x hx
    simp [h x hx]
theorem snoc_ind {P : List Str → Prop} (h0 : P []) (hs : ∀ xs x, P xs → P (xs ++ [x])) (xs : List Str) : P xs := by
  have : ∀ ys : List Str, P ys.reverse := fun ys => by
    induction ys with
    | nil => exact h0
    | cons y l ih => rw [List.reverse_cons]; exact hs _ _ ih
  have h := this xs.reverse
  rwa [List.reverse_reverse] at h
theorem one_part {ps : List Str} {es : List Ln} (ok : PtOk ps es) {q : Str} {l : Str} {ls : List Str} (hw : Wk es q (l :: ls) q) : ((prL ps es ps).2.filter (hldB (l :: ls))).length = 1 := by
  have hq : q ∈ ps := by
    obtain ⟨r, m, _, e⟩ := hw.first
    exact e ▸ (ok.st r m).1
  have key : ∀ xs : List Str, (∀ x ∈ xs, x ∈ ps) → (∀ x ∈ xs, x ∈ (prL ps es xs).1) ∧ (∀ x z, x ∈ (prL ps es xs).1 → Mt es x z → z ∈ ps → z ∈ (prL ps es xs).1) ∧
      ((prL ps es xs).2.filter (hldB (l :: ls))).length = if q ∈ (prL ps es xs).1 then 1 else 0 := by
    intro xs
    induction xs using snoc_ind with
    | h0 => exact fun _ => ⟨fun x h => (by cases h), fun x z h => (by cases h), rfl⟩
    | hs xs p ih =>
    intro hs
    obtain ⟨i1, i2, i3⟩ := ih fun x hx => hs x (List.mem_append_left _ hx)
    have hp : p ∈ ps := hs p (List.mem_append_right _ List.mem_cons_self)
    rw [prL_snoc]
    unfold prStep
    by_cases hk : p ∈ (prL ps es xs).1
    · rw [if_pos hk]
      refine ⟨fun x hx => ?_, i2, i3⟩
      rcases List.mem_append.mp hx with hx | hx
      · exact i1 x hx
      · rw [List.mem_singleton.mp hx]; exact hk
    · rw [if_neg hk]
      have hpp : p ∈ mutL ps es p := (mem_mutL hp).mpr ⟨hp, .refl, .refl⟩
      refine ⟨fun x hx => ?_, fun x z hx hm hz => ?_, ?_⟩
      · rcases List.mem_append.mp hx with hx | hx
        · exact List.mem_append_left _ (i1 x hx)
        · rw [List.mem_singleton.mp hx]; exact List.mem_append_right _ hpp
      · rcases List.mem_append.mp hx with hx | hx
        · exact List.mem_append_left _ (i2 x z hx hm hz)
        · have := ((mem_mutL hp).mp hx).2
          exact List.mem_append_right _ ((mem_mutL hp).mpr ⟨hz, this.1.trans hm.1, hm.2.trans this.2⟩)
      · have hh := holds_iff ok hw hp
        by_cases hm : Mt es p q
        · have hqk : ¬ q ∈ (prL ps es xs).1 := fun z => hk (i2 q p z ⟨hm.2, hm.1⟩ hp)
          have hqn : q ∈ (prL ps es xs).1 ++ mutL ps es p := List.mem_append_right _ ((mem_mutL hp).mpr ⟨hq, hm⟩)
          have hin := hh.mpr hm
          have hne : ¬ innL es (mutL ps es p) = [] := fun z => by
            have := hin l List.mem_cons_self
            rw [z] at this
            cases this
          rw [if_neg hqk] at i3
          rw [if_neg hne, if_pos hqn, List.filter_append, List.length_append, i3]
          have : hldB (l :: ls) (mutL ps es p, innL es (mutL ps es p)) = true := hldB_iff.mpr hin
          rw [List.filter_cons, this]
          rfl
        · have hqm : ¬ q ∈ mutL ps es p := fun z => hm ((mem_mutL hp).mp z).2
          have hqe : (q ∈ (prL ps es xs).1 ++ mutL ps es p) ↔ q ∈ (prL ps es xs).1 := by
            rw [List.mem_append]
            exact ⟨fun z => z.resolve_right hqm, .inl⟩
          have hf : hldB (l :: ls) (mutL ps es p, innL es (mutL ps es p)) = false := Bool.eq_false_iff.mpr fun z => hm (hh.mp (hldB_iff.mp z))
          have hr : (if q ∈ (prL ps es xs).1 ++ mutL ps es p then 1 else 0) = if q ∈ (prL ps es xs).1 then 1 else 0 := by simp only [hqe]
          show ((if innL es (mutL ps es p) = [] then _ else _ : List (List Str × List Str)).filter _).length = _
          rw [hr, ← i3]
          split
          · rfl
          · rw [List.filter_append, List.filter_cons, hf]
            simp
  have := (key ps fun _ h => h)
  rw [this.2.2, if_pos (this.1 q hq)]
open Classical in
theorem mem_rchL {ps : List Str} {es : List Ln} {p q : Str} : q ∈ rchL ps es p ↔ q ∈ ps ∧ Rch es p q := by
  unfold rchL
  rw [List.mem_filter, decide_eq_true_eq]
/-- the part in which a lane from s to e is an inner lane, or None -/
noncomputable def lpF (ps : List Str) (es : List Ln) (s e : Str) : Option (List Str × List Str) := if s ∈ rchL ps es e then some (mutL ps es s, innL es (mutL ps es s)) else none
def lpE (o : Option (List Str × List Str)) : D := match o with
  | some r => .lst [.lst (stD r.1), .lst (stD r.2)]
  | none => .non
def ct_law_part (K : PySem.W.Frag) : Ct := Ct2 fun a b ka out => ∃ ps es r, a = .val (PtD ps es) ∧ b = .val (.str r.1) ∧ r ∈ es ∧ (∀ r ∈ es, r.2.1 ∈ ps ∧ r.2.2 ∈ ps) ∧ (lnN es).Nodup ∧ ps.length ≤ 900 ∧ es.length ≤ 40000 ∧ ka = [] ∧ out = Rt (lpE (lpF ps es r.2.1 r.2.2)) []
section
variable {P : Program} {w : World} {K : PySem.W.Frag} {mg : Str → Option Value} {base : Heap}
theorem ok_law_part (T : Tx K mg) (F_law_ends : Fn P w K mg base 4 (He.ga K "_law_ends") ["_law_parts"] (ct_law_ends K)) (F_law_ways : Fn P w K mg base 4 (He.ga K "_law_ways") ["_law_parts", "_law_start"] (ct_law_ways K)) : Fn P w K mg base 6 (He.ga K "_law_part") ["_law_parts", "_law_lane"] (ct_law_part K) := by
  obtain ⟨fd, F⟩ := T.d_law_part
  refine fn_ok F sc_law_part (fun _ _ _ _ _ _ us hl => match us, hl with | [_, _], _ => rfl) ct2_len (fun cdv A outer s H E hr => ⟨_, (pss_cons (ps_set (i := 2) sc_law_part.nd rfl (by first | exact Or.inl rfl | exact Or.inr rfl) (pe_call (F_law_ends.up (by decide)).ok hr rfl T.g_law_ends.1 T.g_law_ends.2 (F_law_ends.up (by decide)).bn .nil (pass_own rfl rfl rfl rfl) (pa_cons (pv 0) pa_nil)))
      (pss_cons (ps_asg (pe_dget (hu1 hr) (pv 2) (pv 1) fun _ _ => rfl) (pg_tup rfl (pgs_cons (pg_name (i := 3) sc_law_part.nd rfl (by first | exact Or.inl rfl | exact Or.inr rfl)) (pgs_cons (pg_name (i := 4) sc_law_part.nd rfl (by first | exact Or.inl rfl | exact Or.inr rfl)) pgs_nil))))
      (pss_cons (ps_set (i := 5) sc_law_part.nd rfl (by first | exact Or.inl rfl | exact Or.inr rfl) (pe_call (F_law_ways.up (by decide)).ok hr rfl T.g_law_ways.1 T.g_law_ways.2 (F_law_ways.up (by decide)).bn .nil (pass_own rfl rfl rfl rfl) (pa_cons (pv 0) (pa_cons (pv 3) pa_nil))))
      (pss_cons (ps_set (i := 7) sc_law_part.nd rfl (by first | exact Or.inl rfl | exact Or.inr rfl) (pe_lc (te := (tVar 6)) (tt := (tAnd (tB (tDIn (tVar 6) (tVar 5))) (tB (tDIn (tVar 3) (tCall (spC K (ct_law_ways K)) [] (fun _ _ _ => False) (tCons (tVar 0) (tCons (tVar 6) tNil))))))) (own := [("_law_post", 6)]) rfl sc_law_part.nd (pi_seq (pe_ix ix_seq (pv 0) pe_int fun _ _ => rfl)) (blk_ok ["_law_parts", "_law_lane", "_law_ends_here", "_law_start", "_law_end", "_law_ways_here", "_law_post", "_law_posts", "_law_row"] (defScope s_law_part) rfl rfl (by decide +kernel)) (fun _ _ _ _ _ => (pg_name (i := 6) sc_law_part.nd rfl (by first | exact Or.inl rfl | exact Or.inr rfl))) (fun _ _ _ _ _ => (pts_one (PW.pt (pw_and (pt_cmp (pc_din (hu1 hr) (pv 6) (pv 5)) (by with_unfolding_all rfl)) (pw_and1 (pt_cmp (pc_din (hu1 hr) (pv 3) (pe_call (F_law_ways.up (by decide)).ok hr rfl T.g_law_ways.1 T.g_law_ways.2 (F_law_ways.up (by decide)).bn .nil passes_no (pa_cons (pv 0) (pa_cons (pv 6) pa_nil)))) (by with_unfolding_all rfl))))))) (fun _ _ _ _ _ => (pv 6))))
      (pss_cons (ps_if (pt_cmp (pc_dnotin (hu1 hr) (pv 3) (pe_call (F_law_ways.up (by decide)).ok hr rfl T.g_law_ways.1 T.g_law_ways.2 (F_law_ways.up (by decide)).bn .nil (pass_own rfl rfl rfl rfl) (pa_cons (pv 0) (pa_cons (pv 4) pa_nil)))) (by with_unfolding_all rfl))
      (pss_one (ps_ret pe_non))
      pss_nil)
      (pss_one (ps_ret (pe_lst (pa_cons (pv 7) (pa_cons (pe_lc (te := (tOp (rIx K) (tVar 8) (tC (.int 0)))) (tt := (tAnd (tTest (tOp (rInU K) (tOp (rIx K) (tVar 8) (tC (.int 1))) (tVar 7))) (tTest (tOp (rInU K) (tOp (rIx K) (tVar 8) (tC (.int 2))) (tVar 7))))) (own := [("_law_row", 8)]) rfl sc_law_part.nd (pi_seq (pe_ix ix_seq (pv 0) pe_int fun _ _ => rfl)) (blk_ok ["_law_parts", "_law_lane", "_law_ends_here", "_law_start", "_law_end", "_law_ways_here", "_law_post", "_law_posts", "_law_row"] (defScope s_law_part) rfl rfl (by decide +kernel)) (fun _ _ _ _ _ => (pg_name (i := 8) sc_law_part.nd rfl (by first | exact Or.inl rfl | exact Or.inr rfl))) (fun _ _ _ _ _ => (pts_one (PW.pt (pw_and (pt_cmpR op_inU (pe_ix ix_seq (pv 8) pe_int fun _ _ => rfl) (pv 7) (by with_unfolding_all rfl)) (pw_and1 (pt_cmpR op_inU (pe_ix ix_seq (pv 8) pe_int fun _ _ => rfl) (pv 7) (by with_unfolding_all rfl))))))) (fun _ _ _ _ _ => (pe_ix ix_seq (pv 8) pe_int fun _ _ => rfl))) pa_nil)))))))))), fun ws ka out B F0 Q hC hR hX => ?_⟩)
  obtain ⟨a, b, rfl, ps, es, r, rfl, rfl, hr, hst, hn, hl, hel, rfl, rfl⟩ := hC
  have hs : r.2.1 ∈ ps := (hst r hr).1
  have he : r.2.2 ∈ ps := (hst r hr).2
  have hps : ∀ r ∈ es, r.2.2 ∈ ps := fun r h => (hst r h).2
  refine q_asg (ev_callP (ea1 (ev_var rfl)) ⟨_, rfl, ps, es, rfl, hn, by omega, rfl, rfl⟩) ?_
  refine q_asgT (ev_dgetV (d := lnD r) (ev_var rfl) (ev_var rfl) .v (enD_getm hn hr)) at_t2 ?_
  refine q_call (kr := []) (k1 := []) (ea2 (ev_var rfl) (ev_var rfl)) ⟨_, _, rfl, ps, es, r.2.1, rfl, rfl, hs, hps, by omega, by omega, rfl, rfl⟩ (fun o k ⟨wy, h, _⟩ => ⟨_, h⟩) ?_
  rintro _ _ ⟨wy, e, rfl, hwy⟩
  cases e
  refine q_asg (w := .val (.lst (stD (mutL ps es r.2.1)))) ((evn_filt (xs := ps) (g := fun s => W.val (.str s)) (f := fun s => D.str s) (p := fun q => @decide _ (Classical.propDecidable (Rch es r.2.1 q)) && @decide _ (Classical.propDecidable (Rch es q r.2.1))) (ei_strs (ev_ixV (ev_var rfl) ev_int .vl at0)) (by decide) (by omega) ⟨trivial, fun _ => trivial⟩ (fun q hq => et_and (et_B ((ev_din (ev_var rfl) (ev_var rfl) .v).to ?t1)) fun _ => et_B (ev_dinR (k2 := []) (ev_var rfl) (evr_call (k1 := []) [] (ea2 (ev_var rfl) (ev_var rfl)) ⟨_, _, rfl, ps, es, q, rfl, rfl, hq, hps, by omega, by omega, rfl, rfl⟩ (fun o k ⟨wy, h, _⟩ => ⟨_, h⟩)) ?t2)) (fun q hq _ => ev_var rfl)).lst.to ?t3) ?go
  case t1 =>
    rw [show wyD wy = tbD _ wy from rfl, tb_in]
    refine congrArg (fun z => W.val (.bl z)) (decide_eq_decide.mpr (hwy.all q))
  case t2 =>
    rintro w k ⟨d, k2, ⟨wy2, e1, e2, hwy2⟩, e3, e4⟩
    cases e1
    subst e2 e3 e4
    refine ⟨rfl, wyD wy2, false, .v, ?_⟩
    rw [show wyD wy2 = tbD _ wy2 from rfl, tb_in]
    exact decide_eq_decide.mpr (hwy2.all r.2.1)
  case t3 =>
    refine congrArg (fun z => W.val (.lst (stD z))) ?_
    exact mutL_eq ps es r.2.1 hs
  case go =>
  have hml := mutL_len ps es r.2.1
  refine q_when (b := !decide (r.2.1 ∈ rchL ps es r.2.2)) (et_B (ev_dniR (k2 := []) (ev_var rfl) (evr_call (k1 := []) [] (ea2 (ev_var rfl) (ev_var rfl)) ⟨_, _, rfl, ps, es, r.2.2, rfl, rfl, he, hps, by omega, by omega, rfl, rfl⟩ (fun o k ⟨wy, h, _⟩ => ⟨_, h⟩)) ?t4)) (fun hb => ?r1) (fun hb => ?r2)
  case t4 =>
    rintro w k ⟨d, k2, ⟨wy2, e1, e2, hwy2⟩, e3, e4⟩
    cases e1
    subst e2 e3 e4
    refine ⟨rfl, wyD wy2, false, .v, ?_⟩
    rw [show wyD wy2 = tbD _ wy2 from rfl, tb_in]
    refine decide_eq_decide.mpr ((hwy2.all r.2.1).trans ?_)
    rw [mem_rchL]
    exact ⟨fun h => ⟨hs, h⟩, fun h => h.2⟩
  case r1 =>
    rw [Bool.not_eq_true', decide_eq_false_iff_not] at hb
    exact g_ret hR ev_non ⟨by unfold lpF; rw [if_neg hb]; rfl, rfl⟩
  case r2 =>
    rw [Bool.not_eq_false', decide_eq_true_eq] at hb
    have e : lpE (lpF ps es r.2.1 r.2.2) = .lst [.lst (stD (mutL ps es r.2.1)), .lst (stD (innL es (mutL ps es r.2.1)))] := by unfold lpF; rw [if_pos hb]; rfl
    rw [e] at hR
    refine g_ret hR (evn_lst (ds := [.lst (stD (mutL ps es r.2.1)), .lst (stD (innL es (mutL ps es r.2.1)))]) (ea2 (ev_var rfl) ((evn_filt (xs := es) (g := fun r => W.val (rwL r)) (f := fun r => D.str r.1) (p := fun x => decide (x.2.1 ∈ mutL ps es r.2.1) && decide (x.2.2 ∈ mutL ps es r.2.1)) (ei_map (ts := es) (f := rwL) (ev_ixV (ev_var rfl) ev_int .vl (atI_nat (j := 1) rfl))) (by decide) (by omega) ⟨trivial, fun _ => trivial⟩ (fun x hx => et_and (et_test (ev_inL (ev_ixV (ev_var rfl) ev_int .vt (atI_nat (j := 1) rfl)) (ev_var rfl) .vl)) fun _ => et_test (ev_inL (ev_ixV (ev_var rfl) ev_int .vt (atI_nat (j := 2) rfl)) (ev_var rfl) .vl)) (fun x hx _ => ev_ixV (ev_var rfl) ev_int .vt (atI_nat (j := 0) rfl))).lst.to (congrArg (fun z => W.val (.lst z)) (by unfold innL lnN stD; rw [List.map_map]; rfl)))) (show 2 ≤ 100000 by decide)).lst ⟨rfl, rfl⟩
end
def ct_law_wanted (K : PySem.W.Frag) : Ct := Ct2 fun s b ka out => ∃ a p n ps es, s = .val (.adr a) ∧ b = .val (PtD ps es) ∧ ka = [(a, .lst (Pl.ds p))] ∧ p.Ok n ∧ 0 ≤ n ∧ n ≤ 800000 ∧ es ≠ [] ∧ (∀ r ∈ es, r.2.1 ∈ ps ∧ r.2.2 ∈ ps) ∧ (lnN es).Nodup ∧ ps.length ≤ 900 ∧ es.length ≤ 40 ∧
  out = fun o k => ∃ ws p', o = .ret (.lst (stD ws)) ∧ k = [(a, .lst (Pl.ds p'))] ∧ p'.Ok (n + 100) ∧ ws ≠ [] ∧ ws.length ≤ 50 ∧ ∀ w ∈ ws, w ∈ lnN es
section
variable {P : Program} {w : World} {K : PySem.W.Frag} {mg : Str → Option Value} {base : Heap}
theorem ok_law_wanted (T : Tx K mg) (F_law_take : Fn P w K mg base 4 (He.ga K "_law_take") ["_law_pool_here", "_law_many_here"] (ct_law_take K)) (F_law_mixed : Fn P w K mg base 6 (He.ga K "_law_mixed") ["_law_pool_here", "_law_things"] (ct_law_mixed K)) (F_law_part : Fn P w K mg base 6 (He.ga K "_law_part") ["_law_parts", "_law_lane"] (ct_law_part K)) : Fn P w K mg base 8 (He.ga K "_law_wanted") ["_law_pool_here", "_law_parts"] (ct_law_wanted K) := by
  obtain ⟨fd, F⟩ := T.d_law_wanted
  refine fn_ok F sc_law_wanted (fun _ _ _ _ _ _ us hl => match us, hl with | [_, _], _ => rfl) ct2_len (fun cdv A outer s H E hr => ⟨_, (pss_cons (ps_set (i := 3) sc_law_wanted.nd rfl (by first | exact Or.inl rfl | exact Or.inr rfl) (pe_lc (te := (tOp (rIx K) (tVar 2) (tC (.int 0)))) (tt := tYes) (own := [("_law_row", 2)]) rfl sc_law_wanted.nd (pi_seq (pe_ix ix_seq (pv 1) pe_int fun _ _ => rfl)) (blk_ok ["_law_pool_here", "_law_parts", "_law_row", "_law_lanes", "_law_lane", "_law_part_here", "_law_k", "_law_other", "_law_some"] (defScope s_law_wanted) rfl rfl (by decide +kernel)) (fun _ _ _ _ _ => (pg_name (i := 2) sc_law_wanted.nd rfl (by first | exact Or.inl rfl | exact Or.inr rfl))) (fun _ _ _ _ _ => pts_nil) (fun _ _ _ _ _ => (pe_ix ix_seq (pv 2) pe_int fun _ _ => rfl))))
      (pss_cons (ps_set (i := 4) sc_law_wanted.nd rfl (by first | exact Or.inl rfl | exact Or.inr rfl) (pe_ix ix_seq (pv 3) (pe_call (F_law_take.up (by decide)).ok hr rfl T.g_law_take.1 T.g_law_take.2 (F_law_take.up (by decide)).bn .nil (pass_own rfl rfl rfl rfl) (pa_cons (pv 0) (pa_cons (pe_callB call_lenU rfl T.n_len (by decide +kernel) (pa_cons (pv 3) pa_nil)) pa_nil))) fun _ _ => rfl))
      (pss_cons (ps_set (i := 5) sc_law_wanted.nd rfl (by first | exact Or.inl rfl | exact Or.inr rfl) (pe_call (F_law_part.up (by decide)).ok hr rfl T.g_law_part.1 T.g_law_part.2 (F_law_part.up (by decide)).bn .nil (pass_own rfl rfl rfl rfl) (pa_cons (pv 1) (pa_cons (pv 4) pa_nil))))
      (pss_cons (ps_if (PW.pt (pw_or (pt_cmpR op_isN1 (pv 5) pe_non (nomark _)) (pw_or1 (pt_cmpR (op_eqP (by have := (hr).units; exact this)) (pe_call (F_law_take.up (by decide)).ok hr rfl T.g_law_take.1 T.g_law_take.2 (F_law_take.up (by decide)).bn .nil (pass_own rfl rfl rfl rfl) (pa_cons (pv 0) (pa_cons pe_int pa_nil))) pe_int (nomark _)))))
      (pss_one (ps_ret (pe_lc (te := (tOp (rIx K) (tVar 3) (tCall (spC K (ct_law_take K)) [] (fun _ _ _ => False) (tCons (tVar 0) (tCons (tCB (rLenU K) (tCons (tVar 3) tNil)) tNil))))) (tt := tYes) (own := [("_law_k", 6)]) rfl sc_law_wanted.nd (pi_range1 rfl T.n_range (pa_cons (pe_op op_addU pe_int (pe_call (F_law_take.up (by decide)).ok hr rfl T.g_law_take.1 T.g_law_take.2 (F_law_take.up (by decide)).bn .nil (pass_own rfl rfl rfl rfl) (pa_cons (pv 0) (pa_cons pe_int pa_nil)))) pa_nil)) (blk_ok ["_law_pool_here", "_law_parts", "_law_row", "_law_lanes", "_law_lane", "_law_part_here", "_law_k", "_law_other", "_law_some"] (defScope s_law_wanted) rfl rfl (by decide +kernel)) (fun _ _ _ _ _ => (pg_name (i := 6) sc_law_wanted.nd rfl (by first | exact Or.inl rfl | exact Or.inr rfl))) (fun _ _ _ _ _ => pts_nil) (fun _ _ _ _ _ => (pe_ix ix_seq (pv 3) (pe_call (F_law_take.up (by decide)).ok hr rfl T.g_law_take.1 T.g_law_take.2 (F_law_take.up (by decide)).bn .nil passes_no (pa_cons (pv 0) (pa_cons (pe_callB call_lenU rfl T.n_len (by decide +kernel) (pa_cons (pv 3) pa_nil)) pa_nil))) fun _ _ => rfl)))))
      pss_nil)
      (pss_cons (ps_setLc (i := 8) (te := (tVar 7)) (tt := (tTest (tOp (rEqP K false) (tCall (spC K (ct_law_take K)) [] (fun _ _ _ => False) (tCons (tVar 0) (tCons (tC (.int 4)) tNil))) (tC (.int 0))))) (own := [("_law_other", 7)]) rfl sc_law_wanted.nd rfl rfl rfl (pi_seq (pe_ix ix_seq (pv 5) pe_int fun _ _ => rfl)) (blk_ok ["_law_pool_here", "_law_parts", "_law_row", "_law_lanes", "_law_lane", "_law_part_here", "_law_k", "_law_other", "_law_some"] (defScope s_law_wanted) rfl rfl (by decide +kernel)) (fun _ _ _ _ _ => (pg_name (i := 7) sc_law_wanted.nd rfl (by first | exact Or.inl rfl | exact Or.inr rfl))) (fun _ _ _ _ _ => (pts_one (pt_cmpR (op_eqP (by have := (hr).units; exact this)) (pe_call (F_law_take.up (by decide)).ok hr rfl T.g_law_take.1 T.g_law_take.2 (F_law_take.up (by decide)).bn .nil passes_no (pa_cons (pv 0) (pa_cons pe_int pa_nil))) pe_int (nomark _)))) (fun _ _ _ _ _ => (pv 7)))
      (pss_one (ps_ret (pe_call (F_law_mixed.up (by decide)).ok hr rfl T.g_law_mixed.1 T.g_law_mixed.2 (F_law_mixed.up (by decide)).bn .nil (pass_own rfl rfl rfl rfl) (pa_cons (pv 0) (pa_cons (pe_op op_addU (pv 8) (pe_lst (pa_cons (pv 4) pa_nil))) pa_nil)))))))))), fun ws ka out B F0 Q hC hR hX => ?_⟩)
  obtain ⟨s1, b1, rfl, a, p, n, ps, es, rfl, rfl, rfl, hp, hn0, hn, hne, hst, hnd, hl, hel, rfl⟩ := hC
  have hln : lnN es ≠ [] := fun z => hne (List.map_eq_nil_iff.mp z)
  refine q_asg (w := .val (.lst (stD (lnN es)))) ((evn_map (xs := es) (g := fun r => W.val (rwL r)) (f := fun r => D.str r.1) (ei_map (ts := es) (f := rwL) (ev_ixV (ev_var rfl) ev_int .vl (atI_nat (j := 1) rfl))) (by decide) (by omega) ⟨trivial, fun _ => trivial⟩ (fun r hr => ev_ixV (ev_var rfl) ev_int .vt (atI_nat (j := 0) rfl))).lst.to (congrArg (fun z => W.val (.lst z)) (by unfold lnN stD; rw [List.map_map]; rfl))) ?_
  refine q_asg (ev_draw (kr := []) (ev_var rfl) (ev_var rfl) (ev_var rfl) (hp.up (by omega)) hln (by rw [lnN_len]; omega)) ?_
  have o1 := drawP_ok hp hln
  have m1 := drawS_mem hln p
  generalize drawS p (lnN es) = l0 at *
  generalize drawP p (lnN es) = p1 at *
  obtain ⟨r, hr, rfl⟩ := List.mem_map.mp m1
  refine q_asg (ev_callP (ea2 (ev_var rfl) (ev_var rfl)) ⟨_, _, rfl, ps, es, r, rfl, rfl, hr, hst, hnd, hl, by omega, rfl, rfl⟩) ?_
  have o2 := tk_ok o1 (m := 7) (by decide)
  refine q_whenR (R := fun b k => ∃ p', k = [(a, .lst (Pl.ds p'))] ∧ p'.Ok (n + 2) ∧ (b = false → ∃ q, lpF ps es r.2.1 r.2.2 = some q)) ?test (fun k ⟨p', e, hp', _⟩ => ?t1) (fun k ⟨p', e, hp', hq⟩ => ?t2)
  case test =>
    cases hlp : lpF ps es r.2.1 r.2.2 with
    | none => exact etr_or ((et_test (ev_isN (d := .non) (ev_var rfl) (.inl rfl))).to (b := true) rfl) (fun _ => ⟨_, rfl, o1.up (by omega), fun z => by cases z⟩) (fun z => by cases z)
    | some q => exact etr_or ((et_test (ev_isN (d := lpE (some q)) (ev_var rfl) (.inl rfl))).to (b := false) rfl) (fun z => by cases z) (fun _ => (et_test (ev_eqI (ev_take (kr := []) (ev_var rfl) ev_int (o1.up (by omega)) (by decide) (by decide)) ev_int)).toTR ⟨_, rfl, o2.up (by omega), fun _ => ⟨q, rfl⟩⟩)
  case t1 =>
    subst e
    have t3 := tk_lt p' (m := 3) (by decide)
    have o3 := tk_ok hp' (m := 3) (by decide)
    refine g_retR hR (evr_lc (ei_range1 (ea1 (ev_addI ev_int (ev_take (kr := []) (ev_var rfl) ev_int (hp'.up (by omega)) (by decide) (by decide)))) (by omega) (by omega)) (by decide) (by rw [List.length_map, List.length_range]; omega) (fun i acc k => ∃ ss p', acc = stD ss ∧ k = [(a, .lst (Pl.ds p'))] ∧ p'.Ok (n + 3 + i) ∧ ss.length = i ∧ ∀ s ∈ ss, s ∈ lnN es) ⟨[], _, rfl, rfl, o3.up (by omega), rfl, fun s h => by cases h⟩ (fun i acc k _ => ⟨trivial, fun _ => trivial⟩) (fun i w acc k hw ⟨ss, p', e1, e2, hp', hl2, hs⟩ => ?_)) (fun nd k ⟨acc, e0, ss, p', e1, e2, hp', hl2, hs⟩ => ?_)
    · subst e1 e2
      have hi : i < 3 := by
        have := (List.getElem?_eq_some_iff.mp hw).1
        rw [List.length_map, List.length_range] at this
        omega
      refine .inr ⟨_, _, _, et_yes, ev_draw (kr := []) (ev_var rfl) (ev_var rfl) (ev_var rfl) (hp'.up (by omega)) hln (by rw [lnN_len]; omega), ss ++ [drawS p' (lnN es)], drawP p' (lnN es), (stD_app _ [_]), rfl, (drawP_ok hp' hln).up (by push_cast; omega), by rw [List.length_append, hl2]; rfl, fun s h => ?_⟩
      rcases List.mem_append.mp h with h | h
      · exact hs s h
      · rw [List.mem_singleton.mp h]; exact drawS_mem hln p'
    · subst e0 e1 e2
      rw [List.length_map, List.length_range] at hp' hl2
      refine ⟨_, rfl, ss, p', rfl, rfl, hp'.up (by omega), fun z => ?_, by omega, hs⟩
      rw [z] at hl2
      have : ([] : List Str).length = 0 := rfl
      omega
  case t2 =>
    subst e
    obtain ⟨q, hq⟩ := hq rfl
    have hq2 : q.2 = innL es (mutL ps es r.2.1) := by
      unfold lpF at hq
      split at hq
      · cases hq; rfl
      · cases hq
    have hql : q.2.length ≤ 40 := by rw [hq2]; exact Nat.le_trans (innL_len _ _) hel
    have hqm : ∀ x ∈ q.2, x ∈ lnN es := fun x hx => by
      rw [hq2] at hx
      obtain ⟨r2, h1, rfl⟩ := List.mem_map.mp hx
      exact List.mem_map.mpr ⟨r2, (List.mem_filter.mp h1).1, rfl⟩
    rw [hq]
    refine q_asgNR (evr_lc (ei_strs (ss := q.2) (ev_ixV (ev_var rfl) ev_int .vl (atI_nat (j := 1) rfl))) (by decide) (by rw [List.length_map]; omega) (fun i acc k => ∃ ss p', acc = stD ss ∧ k = [(a, .lst (Pl.ds p'))] ∧ p'.Ok (n + 2 + i) ∧ ss.length ≤ i ∧ ∀ s ∈ ss, s ∈ lnN es) ⟨[], _, rfl, rfl, hp'.up (by omega), Nat.le_refl _, fun s h => by cases h⟩ (fun i acc k _ => ⟨trivial, fun _ => trivial⟩) (fun i w acc k hw ⟨ss, p', e1, e2, hp', hl2, hs⟩ => ?_)) (fun nd k c ⟨acc, e0, ss, p', e1, e2, hp', hl2, hs⟩ => ?_)
    · subst e1 e2
      have hi : i < 40 := by
        have := (List.getElem?_eq_some_iff.mp hw).1
        rw [List.length_map] at this
        omega
      rw [List.getElem?_map] at hw
      obtain ⟨x, hx, rfl⟩ := Option.map_eq_some_iff.mp hw
      have o3 := tk_ok hp' (m := 4) (by decide)
      have ht := et_test (ev_eqI (ev_take (K := K) (E := fun _ _ _ => False) (te := tVar 0) (tf := tC (.int 4)) (ro := ((wipeR [some (.val (.adr a)), some (.val (PtD ps es)), none, some (.val (.lst (stD (lnN es)))), some (.val (.str r.1)), some (.val (lpE (some q))), none, none, none] [7]).set 7 (some (.val (.str x))))) (kr := []) (ev_var rfl) ev_int (hp'.up (by omega)) (by decide) (by decide)) (ev_int (i := 0)))
      cases hb : ((tk p' 4).1 == 0) with
      | false =>
        rw [hb] at ht
        exact .inl ⟨_, ht, ss, _, rfl, rfl, o3.up (by push_cast; omega), by omega, hs⟩
      | true =>
        rw [hb] at ht
        refine .inr ⟨_, _, _, ht, ev_var rfl, ss ++ [x], _, (stD_app _ [_]), rfl, o3.up (by push_cast; omega), by rw [List.length_append]; exact Nat.add_le_add_right hl2 1, fun s h => ?_⟩
        rcases List.mem_append.mp h with h | h
        · exact hs s h
        · rw [List.mem_singleton.mp h]; exact hqm x (List.mem_of_getElem? hx)
    · subst e0 e1 e2
      rw [List.length_map] at hp' hl2
      refine Gp.frz (i := 8) (j := 1) (ds := stD ss) rfl rfl ?_
      refine g_retS (k1 := [(a, .lst (Pl.ds p'))]) [] hR (ea2 (ev_var rfl) ((evn_op (ev_var rfl) (evn_lst (ds := stD [r.1]) (ea1 (ev_var rfl)) (show 1 ≤ 100000 by decide)).lst (rvn_cat (b1 := false) (b2 := false) .vl .vl (by rw [stD_len, stD_len, List.length_singleton]; omega))).lst.to (congrArg (fun z => W.val (.lst z)) (stD_app ss [r.1])))) ⟨_, _, rfl, a, p', n + 42, stD (ss ++ [r.1]), rfl, rfl, rfl, hp'.up (by omega), by omega, by omega, by rw [stD_len, List.length_append, List.length_singleton]; omega, rfl⟩ (fun o k ⟨es, p', h, _⟩ => ⟨_, h⟩) (fun d k2 ⟨ds, p2, e1, e2, hp2, hpm⟩ => ?_)
      cases e1
      subst e2
      obtain ⟨ws, rfl, hw⟩ := stD_perm hpm
      refine ⟨ws, p2, rfl, rfl, hp2.up ?_, fun z => ?_, ?_, fun w hw2 => ?_⟩
      · rw [stD_len, List.length_append, List.length_singleton]; omega
      · rw [z] at hw
        have := hw.length_eq
        rw [List.length_append, List.length_singleton] at this
        simp at this
      · rw [hw.length_eq, List.length_append, List.length_singleton]; omega
      · rcases List.mem_append.mp (hw.mem_iff.mp hw2) with h | h
        · exact hs w h
        · rw [List.mem_singleton.mp h]; exact List.mem_map.mpr ⟨r, hr, rfl⟩
end
/-- the part of all wanted lanes, or None -/
noncomputable def ipF (ps : List Str) (es : List Ln) (ws : List Str) : Option (List Str × List Str) := match ws with
  | [] => none
  | w :: _ => match rowOf es w with
    | none => none
    | some r => match lpF ps es r.2.1 r.2.2 with
      | none => none
      | some q => if (ws.filter fun l => !decide (l ∈ q.2)) = [] then some q else none
def ct_law_in_part (K : PySem.W.Frag) : Ct := Ct2 fun a b ka out => ∃ ps es ws, a = .val (PtD ps es) ∧ b = .val (.lst (stD ws)) ∧ ws ≠ [] ∧ ws.length ≤ 1000 ∧ (∀ w ∈ ws, w ∈ lnN es) ∧ (∀ r ∈ es, r.2.1 ∈ ps ∧ r.2.2 ∈ ps) ∧ (lnN es).Nodup ∧ ps.length ≤ 900 ∧ es.length ≤ 40000 ∧ ka = [] ∧ out = Rt (lpE (ipF ps es ws)) []
section
variable {P : Program} {w : World} {K : PySem.W.Frag} {mg : Str → Option Value} {base : Heap}
theorem ok_law_in_part (T : Tx K mg) (F_law_part : Fn P w K mg base 6 (He.ga K "_law_part") ["_law_parts", "_law_lane"] (ct_law_part K)) : Fn P w K mg base 8 (He.ga K "_law_in_part") ["_law_parts", "_law_wanted_here"] (ct_law_in_part K) := by
  obtain ⟨fd, F⟩ := T.d_law_in_part
  refine fn_ok F sc_law_in_part (fun _ _ _ _ _ _ us hl => match us, hl with | [_, _], _ => rfl) ct2_len (fun cdv A outer s H E hr => ⟨_, (pss_cons (ps_set (i := 2) sc_law_in_part.nd rfl (by first | exact Or.inl rfl | exact Or.inr rfl) (pe_call (F_law_part.up (by decide)).ok hr rfl T.g_law_part.1 T.g_law_part.2 (F_law_part.up (by decide)).bn .nil (pass_own rfl rfl rfl rfl) (pa_cons (pv 0) (pa_cons (pe_ix ix_seq (pv 1) pe_int fun _ _ => rfl) pa_nil))))
      (pss_cons (ps_if (PW.pt (pw_or (pt_cmpR op_isN1 (pv 2) pe_non (nomark _)) (pw_or1 (pt_cmpR (op_neP (by have := (hr).units; exact this)) (pe_lc (te := (tVar 3)) (tt := (tTest (tOp (rNiU K) (tVar 3) (tOp (rIx K) (tVar 2) (tC (.int 1)))))) (own := [("_law_lane", 3)]) rfl sc_law_in_part.nd (pi_seq (pv 1)) (blk_ok ["_law_parts", "_law_wanted_here", "_law_part_here", "_law_lane"] (defScope s_law_in_part) rfl rfl (by decide +kernel)) (fun _ _ _ _ _ => (pg_name (i := 3) sc_law_in_part.nd rfl (by first | exact Or.inl rfl | exact Or.inr rfl))) (fun _ _ _ _ _ => (pts_one (pt_cmpR op_niU (pv 3) (pe_ix ix_seq (pv 2) pe_int fun _ _ => rfl) (by with_unfolding_all rfl)))) (fun _ _ _ _ _ => (pv 3))) (pe_lst pa_nil) (nomark _)))))
      (pss_one (ps_ret pe_non))
      pss_nil)
      (pss_one (ps_ret (pv 2))))), fun ws ka out B F0 Q hC hR hX => ?_⟩)
  obtain ⟨a, b, rfl, ps, es, ws, rfl, rfl, hne, hwl, hws, hst, hn, hl, hel, rfl, rfl⟩ := hC
  cases ws with
  | nil => exact absurd rfl hne
  | cons w0 wt =>
  obtain ⟨r, hr⟩ := rowOf_in (hws w0 List.mem_cons_self)
  obtain ⟨m, e0⟩ := rowOf_mem hr
  have hip : ipF ps es (w0 :: wt) = match lpF ps es r.2.1 r.2.2 with
        | none => none
        | some q => if ((w0 :: wt).filter fun l => !decide (l ∈ q.2)) = [] then some q else none := by
    unfold ipF
    dsimp only
    rw [hr]
  refine q_asg (ev_callP (ea2 (ev_var rfl) (ev_ixV (ev_var rfl) ev_int .vl at0)) ⟨_, _, rfl, ps, es, r, rfl, by rw [e0], m, hst, hn, hl, hel, rfl, rfl⟩) ?_
  cases hlp : lpF ps es r.2.1 r.2.2 with
  | none =>
    rw [hlp] at hip
    rw [hip] at hR
    exact q_when (et_or1 ((et_test (ev_isN (d := .non) (ev_var rfl) (.inl rfl))).to (b := true) rfl)) (fun _ => g_ret hR ev_non ⟨rfl, rfl⟩) (fun z => by cases z)
  | some q =>
    rw [hlp] at hip
    have hip : ipF ps es (w0 :: wt) = if ((w0 :: wt).filter fun l => !decide (l ∈ q.2)) = [] then some q else none := hip
    generalize hf : (w0 :: wt).filter (fun l => !decide (l ∈ q.2)) = fl at hip
    refine q_when (b := !decide (fl = [])) (et_or0 ((et_test (ev_isN (d := lpE (some q)) (ev_var rfl) (.inl rfl))).to (b := false) rfl) ((et_test (ev_ne (d := .lst (stD fl)) (e := .lst []) ((evn_filt (xs := w0 :: wt) (g := fun s => W.val (.str s)) (f := fun s => D.str s) (p := fun l => !decide (l ∈ q.2)) (ei_strs (ev_var rfl)) (by decide) (by omega) ⟨trivial, fun _ => trivial⟩ (fun l hl => et_test (ev_niL (ev_var rfl) (ev_ixV (ev_var rfl) ev_int .vl (atI_nat (j := 1) rfl)) .vl)) (fun l hl _ => ev_var rfl)).lst.to (by rw [hf]; rfl)) (evn_lst (ds := []) ea_nil (by decide)).lst .v .v (pl_stD _ 60) rfl)).to ?bb)) (fun hb => ?r1) (fun hb => ?r2)
    case bb =>
      cases fl with
      | nil => rfl
      | cons _ _ => rfl
    case r1 =>
      rw [Bool.not_eq_true', decide_eq_false_iff_not] at hb
      rw [if_neg hb] at hip
      rw [hip] at hR
      exact g_ret hR ev_non ⟨rfl, rfl⟩
    case r2 =>
      rw [Bool.not_eq_false', decide_eq_true_eq] at hb
      rw [if_pos hb] at hip
      rw [hip] at hR
      exact g_ret hR (ev_var rfl) ⟨rfl, rfl⟩
end
/-- do the lanes ls make a closed walk with all of ws -/
def rndB (es : List Ln) (ls ws : List Str) : Bool := (!decide (ls = []) && ls.all fun x => decide (x ∈ lnN es)) && (((List.range ls.length).all fun i => enO es (ls.getD ((i + (ls.length - 1)) % ls.length) "") == stO es (ls.getD i "")) && ws.all fun x => decide (x ∈ ls))
theorem filt_dec {ws ls : List Str} : decide ((ws.filter fun l => !decide (l ∈ ls)) = []) = ws.all fun x => decide (x ∈ ls) := by
  rw [Bool.eq_iff_iff, decide_eq_true_eq, List.filter_eq_nil_iff, List.all_eq_true]
  constructor
  · intro h x hx
    have := h x hx
    simpa using this
  · intro h x hx
    have := h x hx
    simpa using this
def ct_law_is_round (K : PySem.W.Frag) : Ct := Ct3 fun a b c ka out => ∃ ps es ls ws, a = .val (PtD ps es) ∧ b = .val (.lst (stD ls)) ∧ c = .val (.lst (stD ws)) ∧ (lnN es).Nodup ∧ es.length ≤ 40000 ∧ ls.length ≤ 100000 ∧ ws.length ≤ 1000 ∧ ka = [] ∧ out = Rt (.bl (rndB es ls ws)) []
section
variable {P : Program} {w : World} {K : PySem.W.Frag} {mg : Str → Option Value} {base : Heap}
theorem ok_law_is_round (T : Tx K mg) (F_law_ends : Fn P w K mg base 4 (He.ga K "_law_ends") ["_law_parts"] (ct_law_ends K)) : Fn P w K mg base 6 (He.ga K "_law_is_round") ["_law_parts", "_law_lanes", "_law_wanted_here"] (ct_law_is_round K) := by
  obtain ⟨fd, F⟩ := T.d_law_is_round
  refine fn_ok F sc_law_is_round (fun _ _ _ _ _ _ us hl => match us, hl with | [_, _, _], _ => rfl) ct3_len (fun cdv A outer s H E hr => ⟨_, (pss_cons (ps_set (i := 3) sc_law_is_round.nd rfl (by first | exact Or.inl rfl | exact Or.inr rfl) (pe_call (F_law_ends.up (by decide)).ok hr rfl T.g_law_ends.1 T.g_law_ends.2 (F_law_ends.up (by decide)).bn .nil (pass_own rfl rfl rfl rfl) (pa_cons (pv 0) pa_nil)))
      (pss_cons (ps_if (PW.pt (pw_or (pt_cmpR (op_eqP (by have := (hr).units; exact this)) (pe_callB call_lenU rfl T.n_len (by decide +kernel) (pa_cons (pv 1) pa_nil)) pe_int (nomark _)) (pw_or1 (pt_cmpR (op_neP (by have := (hr).units; exact this)) (pe_lc (te := (tVar 4)) (tt := (tB (tDNotIn (tVar 4) (tVar 3)))) (own := [("_law_lane", 4)]) rfl sc_law_is_round.nd (pi_seq (pv 1)) (blk_ok ["_law_parts", "_law_lanes", "_law_wanted_here", "_law_ends_here", "_law_lane", "_law_k"] (defScope s_law_is_round) rfl rfl (by decide +kernel)) (fun _ _ _ _ _ => (pg_name (i := 4) sc_law_is_round.nd rfl (by first | exact Or.inl rfl | exact Or.inr rfl))) (fun _ _ _ _ _ => (pts_one (pt_cmp (pc_dnotin (hu1 hr) (pv 4) (pv 3)) (by with_unfolding_all rfl)))) (fun _ _ _ _ _ => (pv 4))) (pe_lst pa_nil) (nomark _)))))
      (pss_one (ps_ret pe_bl))
      pss_nil)
      (pss_cons (ps_for (passes_of rfl) rfl (pi_enumU rfl T.n_enumerate (pa_cons (pv 1) pa_nil)) (pg_tup rfl (pgs_cons (pg_name (i := 5) sc_law_is_round.nd rfl (by first | exact Or.inl rfl | exact Or.inr rfl)) (pgs_cons (pg_name (i := 4) sc_law_is_round.nd rfl (by first | exact Or.inl rfl | exact Or.inr rfl)) pgs_nil))) (pss_one (ps_if (pt_cmpR (op_neP (by have := (hr).units; exact this)) (pe_ix ix_seq (pe_dget (hu1 hr) (pv 3) (pe_ix ix_seq (pv 1) (pe_op op_sub (pv 5) pe_int) fun _ _ => rfl) fun _ _ => rfl) pe_int fun _ _ => rfl) (pe_ix ix_seq (pe_dget (hu1 hr) (pv 3) (pv 4) fun _ _ => rfl) pe_int fun _ _ => rfl) (nomark _))
      (pss_one (ps_ret pe_bl))
      pss_nil)))
      (pss_one (ps_ret (pe_cmpR (op_eqP (by have := (hr).units; exact this)) (pe_lc (te := (tVar 4)) (tt := (tTest (tOp (rNiU K) (tVar 4) (tVar 1)))) (own := [("_law_lane", 4)]) rfl sc_law_is_round.nd (pi_seq (pv 2)) (blk_ok ["_law_parts", "_law_lanes", "_law_wanted_here", "_law_ends_here", "_law_lane", "_law_k"] (defScope s_law_is_round) rfl rfl (by decide +kernel)) (fun _ _ _ _ _ => (pg_name (i := 4) sc_law_is_round.nd rfl (by first | exact Or.inl rfl | exact Or.inr rfl))) (fun _ _ _ _ _ => (pts_one (pt_cmpR op_niU (pv 4) (pv 1) (by with_unfolding_all rfl)))) (fun _ _ _ _ _ => (pv 4))) (pe_lst pa_nil) (nomark _))))))), fun ws ka out B F0 Q hC hR hX => ?_⟩)
  obtain ⟨a, b, c, rfl, ps, es, ls, ws, rfl, rfl, rfl, hn, hel, hll, hwl, rfl, rfl⟩ := hC
  refine q_asg (ev_callP (ea1 (ev_var rfl)) ⟨_, rfl, ps, es, rfl, hn, by omega, rfl, rfl⟩) ?_
  have nilT : ∀ (fl : List Str), eqD (.lst (stD fl)) (.lst []) = decide (fl = []) := fun fl => by cases fl <;> rfl
  by_cases h0 : ls = []
  · subst h0
    exact q_when (et_or1 ((et_test (ev_eqI (ev_len (ev_var rfl) .vl) ev_int)).to (b := true) rfl)) (fun _ => g_ret hR ev_bl ⟨rfl, rfl⟩) (fun z => by cases z)
  have hp : 0 < ls.length := List.length_pos_iff.mpr h0
  have hc : (((stD ls).length : Nat) == (0 : Int)) = false := beq_eq_false_iff_ne.mpr (by rw [stD_len]; omega)
  refine q_when (et_or0 ((et_test (ev_eqI (ev_len (ev_var rfl) .vl) ev_int)).to (b := false) (by exact_mod_cast hc)) (et_test (ev_ne (d := .lst (stD (ls.filter fun l => !decide (l ∈ lnN es)))) (e := .lst []) (evn_filt (xs := ls) (g := fun s => W.val (.str s)) (f := fun s => D.str s) (p := fun l => !decide (l ∈ lnN es)) (ei_strs (ev_var rfl)) (by decide) (by omega) ⟨trivial, fun _ => trivial⟩ (fun l hl => et_B ((ev_dni (ev_var rfl) (ev_var rfl) .v).to (by rw [enD_in]))) (fun l hl _ => ev_var rfl)).lst (evn_lst (ds := []) ea_nil (by decide)).lst .v .v (pl_stD _ 60) rfl))) (fun hb => ?_) (fun hb => ?_)
  · rw [nilT, filt_dec, Bool.not_eq_true'] at hb
    refine g_ret hR ev_bl ⟨?_, rfl⟩
    unfold rndB
    rw [hb, Bool.and_false, Bool.false_and]
  rw [nilT, filt_dec, Bool.not_eq_false'] at hb
  have hall : ∀ x ∈ ls, x ∈ lnN es := fun x hx => of_decide_eq_true (List.all_eq_true.mp hb x hx)
  have hhead : (!decide (ls = []) && ls.all fun x => decide (x ∈ lnN es)) = true := by rw [hb, decide_eq_false h0]; rfl
  refine q_forT (ei_enumU (ds := stD ls) (ev_var rfl) .vl) (fun i ro ka => ∃ (v4 v5 : Option W), ro = [some (.val (PtD ps es)), some (.val (.lst (stD ls))), some (.val (.lst (stD ws))), some (.val (.dic (enD es))), v4, v5] ∧ ka = [] ∧ ∀ j, j < i → (enO es (ls.getD ((j + (ls.length - 1)) % ls.length) "") == stO es (ls.getD j "")) = true) ⟨_, _, rfl, rfl, fun j z => absurd z (Nat.not_lt_zero _)⟩ (fun i ro ka _ => trivial) (fun i w ro2 ka2 ta' hw ⟨v4, v5, e1, e2, hs⟩ => ?_) (fun ro2 ka2 ta' ⟨v4, v5, e1, e2, hs⟩ _ => ?_)
  · subst e1 e2
    rw [List.getElem?_map] at hw
    obtain ⟨i', hi', rfl⟩ := Option.map_eq_some_iff.mp hw
    obtain ⟨hi1, hi2⟩ := List.getElem?_eq_some_iff.mp hi'
    rw [List.getElem_range] at hi2
    subst hi2
    rw [List.length_range, stD_len] at hi1
    have hx := List.getElem?_eq_getElem hi1
    have hg : (stD ls).getD i .non = .str ls[i] := by rw [List.getD_eq_getElem?_getD, stD_get hx]; rfl
    have hgs : ls.getD i "" = ls[i] := by rw [List.getD_eq_getElem?_getD, hx]; rfl
    rw [hg]
    have hm1 : (i + (ls.length - 1)) % ls.length < ls.length := Nat.mod_lt _ hp
    have hat : atI (stD ls) ((i : Int) - 1) = some (.str (ls.getD ((i + (ls.length - 1)) % ls.length) "")) := by
      have hgm : (stD ls)[(i + (ls.length - 1)) % ls.length]? = some (.str (ls.getD ((i + (ls.length - 1)) % ls.length) "")) := by
        rw [stD_get (List.getElem?_eq_getElem hm1), List.getD_eq_getElem?_getD, List.getElem?_eq_getElem hm1]
        rfl
      unfold atI ixN
      by_cases hz : i = 0
      · subst hz
        rw [if_neg (by omega), if_pos (by rw [stD_len]; omega)]
        show (stD ls)[(((0 : Nat) : Int) - 1 + ((stD ls).length : Nat)).toNat]? = _
        rw [← hgm, stD_len]
        congr 1
        rw [Nat.zero_add, Nat.mod_eq_of_lt (by omega)]
        omega
      · rw [if_pos (by omega), if_pos (by rw [stD_len]; omega)]
        show (stD ls)[((i : Int) - 1).toNat]? = _
        rw [← hgm]
        congr 1
        have : i + (ls.length - 1) = (i - 1) + ls.length := by omega
        rw [this, Nat.add_mod_right, Nat.mod_eq_of_lt (by omega)]
        omega
    obtain ⟨r, m, e1⟩ := List.mem_map.mp (hall ls[i] (List.getElem_mem _))
    obtain ⟨r', m', e2⟩ := List.mem_map.mp (hall (ls.getD ((i + (ls.length - 1)) % ls.length) "") (by rw [List.getD_eq_getElem?_getD, List.getElem?_eq_getElem hm1]; exact List.getElem_mem _))
    rw [← e2] at hat
    refine ⟨_, at_t2, g_if (et_test (ev_neS (ev_ixV (ev_dgetV (d := lnD r') (ev_var rfl) (ev_ixV (ev_var rfl) (ev_op (ev_var rfl) ev_int rv_sub) .vl hat) .v (enD_getm hn m')) ev_int .vt (atI_nat (j := 1) rfl)) (ev_ixV (ev_dgetV (d := lnD r) (ev_var rfl) ((ev_var rfl).to (congrArg (fun z => W.val (.str z)) e1.symm)) .v (enD_getm hn m)) ev_int .vt (atI_nat (j := 0) rfl)))) (fun hb2 => ?_) (fun hb2 => g_next (g_jp ⟨_, _, rfl, rfl, fun j hj => ?_⟩))⟩
    · rw [Bool.not_eq_true'] at hb2
      refine g_ret hR ev_bl ⟨?_, rfl⟩
      have : ((List.range ls.length).all fun i => enO es (ls.getD ((i + (ls.length - 1)) % ls.length) "") == stO es (ls.getD i "")) = false := by
        rw [← Bool.not_eq_true, List.all_eq_true]
        intro z
        have := z i (List.mem_range.mpr hi1)
        rw [hgs, ← e1, ← e2, enO_eq hn m', stO_eq hn m, hb2] at this
        cases this
      unfold rndB
      rw [this, Bool.false_and, Bool.and_false]
    · by_cases q : j = i
      · subst q
        rw [Bool.not_eq_false'] at hb2
        rw [hgs, ← e1, ← e2, enO_eq hn m', stO_eq hn m]
        exact hb2
      · exact hs j (by omega)
  · subst e1 e2
    rw [List.length_map, List.length_range, stD_len] at hs
    have hcyc : ((List.range ls.length).all fun i => enO es (ls.getD ((i + (ls.length - 1)) % ls.length) "") == stO es (ls.getD i "")) = true := List.all_eq_true.mpr fun j hj => hs j (List.mem_range.mp hj)
    refine g_ret hR ((ev_eq (d := .lst (stD (ws.filter fun l => !decide (l ∈ ls)))) (e := .lst []) (evn_filt (xs := ws) (g := fun s => W.val (.str s)) (f := fun s => D.str s) (p := fun l => !decide (l ∈ ls)) (ei_strs (ev_var rfl)) (by decide) (by omega) ⟨trivial, fun _ => trivial⟩ (fun l hl => et_test (ev_niL (ev_var rfl) (ev_var rfl) .vl)) (fun l hl _ => ev_var rfl)).lst (evn_lst (ds := []) ea_nil (by decide)).lst .v .v (pl_stD _ 60) rfl).to ?_) ⟨rfl, rfl⟩
    rw [nilT, filt_dec]
    unfold rndB
    rw [hhead, hcyc, Bool.true_and, Bool.true_and]
end
theorem rch_wk {es : List Ln} {p q : Str} (h : Rch es p q) : ∃ ls, Wk es p ls q := by
  induction h with
  | refl => exact ⟨[], rfl⟩
  | @step x r _ m e ih =>
    obtain ⟨ls, hw⟩ := ih
    subst e
    exact ⟨_, hw.snoc m⟩
theorem prL_mem {ps : List Str} {es : List Ln} : ∀ {xs : List Str}, (∀ x ∈ xs, x ∈ ps) → ∀ {r : List Str × List Str}, r ∈ (prL ps es xs).2 → ∃ p ∈ ps, r = (mutL ps es p, innL es (mutL ps es p)) := by
  intro xs
  induction xs using snoc_ind with
  | h0 => intro _ r h; cases h
  | hs xs x ih =>
    intro hx r h
    have i := @ih fun y hy => hx y (List.mem_append_left _ hy)
    rw [prL_snoc] at h
    unfold prStep at h
    split at h
    · exact i h
    · dsimp only at h
      split at h
      · exact i h
      · rcases List.mem_append.mp h with h | h
        · exact i h
        · exact ⟨x, hx x (List.mem_append_right _ List.mem_cons_self), List.mem_singleton.mp h⟩
open Classical in
theorem mut_eq {ps : List Str} {es : List Ln} {p q : Str} (hp : p ∈ ps) (hq : q ∈ ps) (h : Mt es p q) : mutL ps es p = mutL ps es q := by
  rw [← mutL_eq ps es p hp, ← mutL_eq ps es q hq]
  refine List.filter_congr fun x _ => ?_
  rw [Bool.eq_iff_iff, Bool.and_eq_true, Bool.and_eq_true, decide_eq_true_eq, decide_eq_true_eq, decide_eq_true_eq, decide_eq_true_eq]
  exact ⟨fun ⟨a, b⟩ => ⟨h.2.trans a, b.trans h.1⟩, fun ⟨a, b⟩ => ⟨h.1.trans a, b.trans h.2⟩⟩
theorem inn_row {es : List Ln} (hn : (lnN es).Nodup) {qs : List Str} {r : Ln} (m : r ∈ es) (h : r.1 ∈ innL es qs) : r.2.1 ∈ qs ∧ r.2.2 ∈ qs := by
  obtain ⟨r', h1, e⟩ := List.mem_map.mp (show r.1 ∈ lnN _ from h)
  obtain ⟨h2, h3⟩ := List.mem_filter.mp h1
  obtain rfl := ln_uniq hn h2 m e
  rw [Bool.and_eq_true, decide_eq_true_eq, decide_eq_true_eq] at h3
  exact h3
theorem row_eq {es : List Ln} (hn : (lnN es).Nodup) {r : Ln} (m : r ∈ es) : rowOf es r.1 = some r := by
  obtain ⟨r', h⟩ := rowOf_in (List.mem_map.mpr ⟨r, m, rfl⟩ : r.1 ∈ lnN es)
  obtain ⟨m', e⟩ := rowOf_mem h
  rw [h, ln_uniq hn m' m e]
theorem all_mem {xs ys : List Str} (h : ∀ x, x ∈ xs ↔ x ∈ ys) (p : Str → Bool) : xs.all p = ys.all p := by
  rw [Bool.eq_iff_iff, List.all_eq_true, List.all_eq_true]
  exact ⟨fun a x hx => a x ((h x).mpr hx), fun a x hx => a x ((h x).mp hx)⟩
theorem pwF_mem {ps : List Str} {es : List Ln} {xs ys : List Str} (h : ∀ x, x ∈ xs ↔ x ∈ ys) : pwF ps es xs = pwF ps es ys := by
  unfold pwF
  congr 1
  funext r
  exact all_mem h _
theorem mem_goal {es : List Ln} {ws : List Str} (hw : ∀ w ∈ ws, w ∈ lnN es) (x : Str) : x ∈ goalL es ws ↔ x ∈ ws := by
  unfold goalL
  rw [List.mem_filter, decide_eq_true_eq]
  exact ⟨fun h => h.2, fun h => ⟨hw x h, h⟩⟩
theorem flt_nil {ws ls : List Str} : (ws.filter fun l => !decide (l ∈ ls)) = [] ↔ (ws.all fun x => decide (x ∈ ls)) = true := by
  rw [List.filter_eq_nil_iff, List.all_eq_true]
  constructor
  · intro h x hx
    have := h x hx
    simpa using this
  · intro h x hx
    have := h x hx
    simpa using this
/-- the part that the program finds is the one that the law finds -/
theorem pw_ip {ps : List Str} {es : List Ln} (ok : PtOk ps es) {ws : List Str} (hne : ws ≠ []) (hw : ∀ w ∈ ws, w ∈ lnN es) : pwF ps es ws = ipF ps es ws := by
  cases ws with
  | nil => exact absurd rfl hne
  | cons w0 wt =>
  obtain ⟨r, hr⟩ := rowOf_in (hw w0 List.mem_cons_self)
  obtain ⟨m, e0⟩ := rowOf_mem hr
  subst e0
  have hst := ok.st r m
  have hip : ipF ps es (r.1 :: wt) = match lpF ps es r.2.1 r.2.2 with
      | none => none
      | some q => if ((r.1 :: wt).filter fun l => !decide (l ∈ q.2)) = [] then some q else none := by
    unfold ipF
    dsimp only
    rw [hr]
  cases hp : pwF ps es (r.1 :: wt) with
  | some q =>
    unfold pwF at hp
    have h1 := List.mem_of_find?_eq_some hp
    have h2 := List.find?_some hp
    obtain ⟨p, hpp, rfl⟩ := prL_mem (fun _ h => h) h1
    dsimp only at h2
    have h3 := of_decide_eq_true (List.all_eq_true.mp h2 r.1 List.mem_cons_self)
    obtain ⟨a1, a2⟩ := inn_row ok.ed m h3
    have b1 := (mem_mutL hpp).mp a1
    have b2 := (mem_mutL hpp).mp a2
    have em : mutL ps es p = mutL ps es r.2.1 := mut_eq hpp hst.1 b1.2
    have hl : lpF ps es r.2.1 r.2.2 = some (mutL ps es r.2.1, innL es (mutL ps es r.2.1)) := if_pos (mem_rchL.mpr ⟨hst.1, b2.2.2.trans b1.2.1⟩)
    rw [hip, hl]
    dsimp only
    rw [em] at h2 ⊢
    rw [if_pos (flt_nil.mpr h2)]
  | none =>
    rw [hip]
    unfold lpF
    split
    · rfl
    · rename_i q hq
      split at hq
      · rename_i hs
        cases hq
        have hs := (mem_rchL.mp hs).2
        split
        · rename_i hf
          dsimp only at hf
          obtain ⟨ls, hwk⟩ := rch_wk hs
          have h1 := one_part ok (q := r.2.1) (l := r.1) (ls := ls) ⟨r, m, rfl, rfl, hwk⟩
          obtain ⟨x, hx⟩ : ∃ x, x ∈ (prL ps es ps).2.filter (hldB (r.1 :: ls)) := by
            cases hl : (prL ps es ps).2.filter (hldB (r.1 :: ls)) with
            | nil => rw [hl] at h1; cases h1
            | cons x _ => exact ⟨x, List.mem_cons_self⟩
          obtain ⟨hx1, hx2⟩ := List.mem_filter.mp hx
          obtain ⟨p, hpp, rfl⟩ := prL_mem (fun _ h => h) hx1
          have h3 := hldB_iff.mp hx2 r.1 List.mem_cons_self
          obtain ⟨a1, a2⟩ := inn_row ok.ed m h3
          have em : mutL ps es p = mutL ps es r.2.1 := mut_eq hpp hst.1 ((mem_mutL hpp).mp a1).2
          unfold pwF at hp
          have := List.find?_eq_none.mp hp _ hx1
          dsimp only at this
          rw [em, flt_nil.mp hf] at this
          exact absurd rfl this
        · rfl
      · cases hq
theorem Wk.mono {es fs : List Ln} (h : ∀ r ∈ es, r ∈ fs) {q : Str} : ∀ {ls : List Str} {p : Str}, Wk es p ls q → Wk fs p ls q
  | [], _, e => e
  | _ :: _, _, ⟨r, m, e1, e2, w⟩ => ⟨r, h r m, e1, e2, Wk.mono h w⟩
theorem Wk.app {es : List Ln} {q z : Str} {ms : List Str} : ∀ {ls : List Str} {p : Str}, Wk es p ls q → Wk es q ms z → Wk es p (ls ++ ms) z
  | [], _, e, w => by
    obtain rfl := e
    exact w
  | _ :: _, _, ⟨r, m, e1, e2, w⟩, w2 => ⟨r, m, e1, e2, Wk.app w w2⟩
/-- the rows along a walk -/
theorem wk_at {es : List Ln} {q : Str} : ∀ {ls : List Str} {p : Str}, Wk es p ls q → ∀ {i : Nat} {x : Str}, ls[i]? = some x → ∃ r ∈ es, r.1 = x ∧ (i = 0 → r.2.1 = p) ∧ (i + 1 = ls.length → r.2.2 = q) ∧ ∀ y, ls[i + 1]? = some y → ∃ r' ∈ es, r'.1 = y ∧ r'.2.1 = r.2.2
  | [], _, _, i, x, h => by simp at h
  | l :: t, p, ⟨r, m, e1, e2, w⟩, 0, x, h => by
    cases h
    refine ⟨r, m, e1, fun _ => e2, fun z => ?_, fun y hy => ?_⟩
    · cases t with
      | nil => exact w
      | cons _ _ => simp at z
    · cases t with
      | nil => simp at hy
      | cons y2 t2 =>
        cases hy
        obtain ⟨r', m', e3, e4, _⟩ := w
        exact ⟨r', m', e3, e4⟩
  | l :: t, p, ⟨r, m, e1, e2, w⟩, i + 1, x, h => by
    obtain ⟨r', m', a1, a2, a3, a4⟩ := wk_at w (i := i) (x := x) (by simpa using h)
    refine ⟨r', m', a1, fun z => by omega, fun z => a3 (by rw [List.length_cons] at z; omega), fun y hy => a4 y (by simpa using hy)⟩
theorem getD_at {ls : List Str} {i : Nat} (h : i < ls.length) : ls[i]? = some (ls.getD i "") := by
  rw [List.getD_eq_getElem?_getD, List.getElem?_eq_getElem h]
  rfl
/-- a closed walk, seen as a cycle -/
theorem cyc_at {es : List Ln} (hn : (lnN es).Nodup) {ls : List Str} {p : Str} (w : Wk es p ls p) {i : Nat} (hi : i < ls.length) : ls.getD i "" ∈ lnN es ∧ enO es (ls.getD i "") = stO es (ls.getD ((i + 1) % ls.length) "") := by
  obtain ⟨r, m, e1, e2, e3, e4⟩ := wk_at w (getD_at hi)
  have h1 := enO_eq hn m
  rw [e1] at h1
  refine ⟨List.mem_map.mpr ⟨r, m, e1⟩, ?_⟩
  rw [h1]
  by_cases h : i + 1 = ls.length
  · rw [h, Nat.mod_self]
    obtain ⟨r0, m0, f1, f2, _⟩ := wk_at w (getD_at (show 0 < ls.length by omega))
    have h2 := stO_eq hn m0
    rw [f1] at h2
    rw [h2, e3 h, f2 rfl]
  · rw [Nat.mod_eq_of_lt (by omega)]
    obtain ⟨r', m', f1, f2⟩ := e4 _ (getD_at (show i + 1 < ls.length by omega))
    have h2 := stO_eq hn m'
    rw [f1] at h2
    rw [h2, f2]
theorem Rch.mono {es fs : List Ln} (h : ∀ r ∈ es, r ∈ fs) {p q : Str} (a : Rch es p q) : Rch fs p q := by
  induction a with
  | refl => exact .refl
  | step _ m e ih => exact .step ih (h _ m) e
/-- within a part one gets along by inner lanes -/
theorem rch_in {ps : List Str} {es : List Ln} (hst : ∀ r ∈ es, r.2.1 ∈ ps ∧ r.2.2 ∈ ps) {s p q : Str} (hs : s ∈ ps) (hp : p ∈ mutL ps es s) (hq : q ∈ mutL ps es s) (h : Rch es p q) : Rch (innR es (mutL ps es s)) p q := by
  obtain ⟨_, hp1, hp2⟩ := (mem_mutL hs).mp hp
  obtain ⟨_, hq1, hq2⟩ := (mem_mutL hs).mp hq
  have key : ∀ x, Rch es p x → Rch es x q → Rch (innR es (mutL ps es s)) p x := by
    intro x hx
    induction hx with
    | refl => exact fun _ => .refl
    | @step x r a m e ih =>
      intro hq'
      subst e
      have st : Rch es r.2.1 r.2.2 := .step .refl m rfl
      have b := ih (st.trans hq')
      have m1 : r.2.1 ∈ mutL ps es s := (mem_mutL hs).mpr ⟨(hst r m).1, hp1.trans a, (st.trans hq').trans hq2⟩
      have m2 : r.2.2 ∈ mutL ps es s := (mem_mutL hs).mpr ⟨(hst r m).2, hp1.trans (a.trans st), hq'.trans hq2⟩
      exact .step b (List.mem_filter.mpr ⟨m, by rw [decide_eq_true m1, decide_eq_true m2]; rfl⟩) rfl
  exact key q h .refl
theorem fitB_wk {es : List Ln} (hn : (lnN es).Nodup) {ls : List Str} {p : Str} (w : Wk es p ls p) : fitB es ls = true := List.all_eq_true.mpr fun i hi => by
  have hi := List.mem_range.mp hi
  obtain ⟨h1, h2⟩ := cyc_at hn w hi
  have h3 := (cyc_at hn w (Nat.mod_lt (i + 1) (show 0 < ls.length by omega))).1
  rw [decide_eq_true h1, decide_eq_true h3, h2, beq_self_eq_true]
  rfl
theorem rndB_wk {es : List Ln} (hn : (lnN es).Nodup) {ls ws : List Str} {p : Str} (w : Wk es p ls p) (hne : ls ≠ []) (hw : ∀ x ∈ ws, x ∈ ls) : rndB es ls ws = true := by
  have hp := List.length_pos_iff.mpr hne
  unfold rndB
  rw [decide_eq_false hne, List.all_eq_true.mpr (fun x hx => ?a), List.all_eq_true.mpr (fun i hi => ?b), List.all_eq_true.mpr (fun x hx => decide_eq_true (hw x hx))]
  · rfl
  case a =>
    obtain ⟨i, hi, rfl⟩ := List.mem_iff_getElem.mp hx
    have := (cyc_at hn w hi).1
    rw [List.getD_eq_getElem?_getD, List.getElem?_eq_getElem hi] at this
    exact decide_eq_true this
  case b =>
    have hi := List.mem_range.mp hi
    have hj : (i + (ls.length - 1)) % ls.length < ls.length := Nat.mod_lt _ hp
    have h2 := (cyc_at hn w hj).2
    have e : ((i + (ls.length - 1)) % ls.length + 1) % ls.length = i := by
      rw [Nat.mod_add_mod, show i + (ls.length - 1) + 1 = i + ls.length by omega, Nat.add_mod_right, Nat.mod_eq_of_lt hi]
    rw [e] at h2
    rw [h2, beq_self_eq_true]
/-- the tour is a closed walk -/
theorem TwOk.wk {ps : List Str} {es : List Ln} {gs : List Str} (h : TwOk ps es gs) : ∀ n, n < gs.length → Wk es (stO es (gs.getD 0 "")) (twL ps es gs (n + 1)) (stO es (gs.getD ((n + 1) % gs.length) ""))
  | 0, hn => by
    obtain ⟨r, m, r', m', e1, e2, e, _, w, _⟩ := h.piece hn
    rw [twL_snoc, e]
    have a1 : gs.getD 0 "" = r.1 := by rw [List.getD_eq_getElem?_getD, e1]; rfl
    have a2 : gs.getD ((0 + 1) % gs.length) "" = r'.1 := by rw [List.getD_eq_getElem?_getD, e2]; rfl
    rw [a1, a2, stO_eq h.nd m, stO_eq h.nd m']
    exact ⟨r, m, rfl, rfl, w⟩
  | n + 1, hn => by
    obtain ⟨r, m, r', m', e1, e2, e, _, w, _⟩ := h.piece hn
    have ih := TwOk.wk h n (by omega)
    rw [twL_snoc, e]
    rw [Nat.mod_eq_of_lt (by omega)] at ih
    have a1 : gs.getD (n + 1) "" = r.1 := by rw [List.getD_eq_getElem?_getD, e1]; rfl
    have a2 : gs.getD ((n + 1 + 1) % gs.length) "" = r'.1 := by rw [List.getD_eq_getElem?_getD, e2]; rfl
    rw [a1, stO_eq h.nd m] at ih
    rw [a2, stO_eq h.nd m']
    exact ih.app ⟨r, m, rfl, rfl, w⟩
theorem TwOk.closed {ps : List Str} {es : List Ln} {gs : List Str} (h : TwOk ps es gs) : ∃ p, Wk es p (twL ps es gs gs.length) p := by
  have hp := List.length_pos_iff.mpr h.ne
  have := h.wk (gs.length - 1) (by omega)
  rw [show gs.length - 1 + 1 = gs.length by omega, Nat.mod_self] at this
  exact ⟨_, this⟩
theorem TwOk.has {ps : List Str} {es : List Ln} {gs : List Str} (h : TwOk ps es gs) : ∀ g ∈ gs, g ∈ twL ps es gs gs.length := fun g hg => by
  obtain ⟨i, hi, rfl⟩ := List.mem_iff_getElem.mp hg
  have key : ∀ n, i < n → n ≤ gs.length → gs[i] ∈ twL ps es gs n := by
    intro n
    induction n with
    | zero => intro z; omega
    | succ n ih =>
      intro h1 h2
      rw [twL_snoc]
      by_cases q : i = n
      · subst q
        refine List.mem_append_right _ ?_
        unfold pieceL
        rw [List.getD_eq_getElem?_getD, List.getElem?_eq_getElem hi]
        exact List.mem_cons_self
      · exact List.mem_append_left _ (ih (by omega) (by omega))
  exact key gs.length hi (Nat.le_refl _)
/-- what is found for wanted lanes of one part -/
theorem tw_of {ps : List Str} {es : List Ln} (ok : PtOk ps es) {ws : List Str} (hne : ws ≠ []) (hw : ∀ w ∈ ws, w ∈ lnN es) {q : List Str × List Str} (h : pwF ps es (goalL es ws) = some q) : q.2 = innL es q.1 ∧ TwOk ps (innR es q.1) (goalL es ws) := by
  have hpl := ok.pl
  have hel := ok.el
  unfold pwF at h
  have h1 := List.mem_of_find?_eq_some h
  have h2 := List.find?_some h
  obtain ⟨p, hp, rfl⟩ := prL_mem (fun _ h => h) h1
  dsimp only at h2 ⊢
  refine ⟨rfl, ?_, ?_, fun g hg => ?_, innR_nd ok.ed, fun r hr => ok.st r (innR_sub hr), fun r hr r' hr' => ?_, by omega, ?_⟩
  · intro z
    obtain ⟨w0, wt, rfl⟩ : ∃ x t, ws = x :: t := by
      cases ws with
      | nil => exact absurd rfl hne
      | cons x t => exact ⟨x, t, rfl⟩
    have := (mem_goal hw w0).mpr List.mem_cons_self
    rw [z] at this
    cases this
  · refine Nat.le_trans (List.length_filter_le _ _) ?_
    rw [lnN_len]
    exact hel
  · exact of_decide_eq_true (List.all_eq_true.mp h2 g hg)
  · have b1 := (List.mem_filter.mp hr).2
    have b2 := (List.mem_filter.mp hr').2
    rw [Bool.and_eq_true, decide_eq_true_eq, decide_eq_true_eq] at b1 b2
    obtain ⟨_, c1, c2⟩ := (mem_mutL hp).mp b1.2
    obtain ⟨_, d1, d2⟩ := (mem_mutL hp).mp b2.1
    exact rch_in ok.st hp b1.2 b2.1 (c2.trans d1)
  · exact Nat.le_trans (List.length_filter_le _ _) (by omega)
/-- the order of the lanes does not matter -/
theorem ip_perm {ps : List Str} {es fs : List Ln} (h : ∀ r, r ∈ es ↔ r ∈ fs) (hn : (lnN es).Nodup) (hn' : (lnN fs).Nodup) {ws : List Str} (hw : ∀ w ∈ ws, w ∈ lnN es) : (ipF ps es ws).isNone = (ipF ps fs ws).isNone := by
  have hR : ∀ p q, Rch es p q ↔ Rch fs p q := fun p q => ⟨Rch.mono fun r hr => (h r).mp hr, Rch.mono fun r hr => (h r).mpr hr⟩
  have hrl : ∀ p, rchL ps es p = rchL ps fs p := fun p => by
    unfold rchL
    exact List.filter_congr fun x _ => decide_eq_decide.mpr (hR p x)
  have hml : ∀ p, mutL ps es p = mutL ps fs p := fun p => by
    unfold mutL
    rw [hrl p]
    exact List.filter_congr fun x _ => by rw [hrl x]
  have hin : ∀ qs x, x ∈ innL es qs ↔ x ∈ innL fs qs := fun qs x => by
    unfold innL lnN
    rw [List.mem_map, List.mem_map]
    constructor
    · rintro ⟨r, m, e⟩
      exact ⟨r, List.mem_filter.mpr ⟨(h r).mp (List.mem_filter.mp m).1, (List.mem_filter.mp m).2⟩, e⟩
    · rintro ⟨r, m, e⟩
      exact ⟨r, List.mem_filter.mpr ⟨(h r).mpr (List.mem_filter.mp m).1, (List.mem_filter.mp m).2⟩, e⟩
  cases ws with
  | nil => rfl
  | cons w t =>
    obtain ⟨r, m, e⟩ := List.mem_map.mp (hw w List.mem_cons_self)
    have r1 := row_eq hn m
    have r2 := row_eq hn' ((h r).mp m)
    rw [e] at r1 r2
    unfold ipF
    dsimp only
    rw [r1, r2]
    dsimp only
    unfold lpF
    rw [hrl r.2.2, hml r.2.1]
    by_cases q : r.2.1 ∈ rchL ps fs r.2.2
    · rw [if_pos q, if_pos q]
      dsimp only
      have e2 : ((w :: t).filter fun l => !decide (l ∈ innL es (mutL ps fs r.2.1))) = (w :: t).filter fun l => !decide (l ∈ innL fs (mutL ps fs r.2.1)) := List.filter_congr fun x _ => by rw [decide_eq_decide.mpr (hin _ x)]
      rw [e2]
      split <;> rfl
    · rw [if_neg q, if_neg q]
theorem PtOk.rev {ps : List Str} {es : List Ln} (ok : PtOk ps es) : PtOk ps es.reverse := ⟨ok.pn, ok.pd, fun r hr => ok.en r (List.mem_reverse.mp hr), by
  have : lnN es.reverse = (lnN es).reverse := List.map_reverse
  rw [this]
  exact List.pairwise_reverse.mpr (ok.ed.imp fun h => Ne.symm h), fun r hr => ok.st r (List.mem_reverse.mp hr), ok.pl, by rw [List.length_reverse]; exact ok.el⟩
theorem lpE_nn (o : Option (List Str × List Str)) : isNonD (lpE o) = o.isNone := by cases o <;> rfl
noncomputable def lotsL (ws : List Str) (o : Option (List Str × List Str)) : List (List Str) := [ws, ws.take 1] ++ (match o with | some q => [q.2] | none => [])
theorem cut_one {α : Type} (xs : List α) : cutD xs none (some 1) = xs.take 1 := by
  unfold cutD
  rw [show (1 : Int) = ((1 : Nat) : Int) from rfl, HT.sIx_nat]
  show (xs.drop 0).take (min 1 xs.length - 0) = xs.take 1
  rw [List.drop_zero, Nat.sub_zero, ← List.take_eq_take_min]
def ct_law (K : PySem.W.Frag) : Ct := Ct1 fun a ka out => ∃ ns, Scr K a ns ∧ ka = [] ∧ out = Rt (.bl true) []
section
variable {P : Program} {w : World} {K : PySem.W.Frag} {mg : Str → Option Value} {base : Heap}
theorem ok_law {fd : FuncData} (T : Tx K mg) (F_Round_lanes : Fn P w K mg base 4 (pga K (He.ga K "Round") "lanes") ["self"] (ct_Round_lanes K)) (F_fits : Fn P w K mg base 8 (He.ga K "fits") ["net", "ring"] (ct_fits K)) (F_law_cell : Fn P w K mg base 4 (He.ga K "_law_cell") ["_law_script", "_law_k"] (ct_law_cell K)) (F_law_pool : Fn P w K mg base 4 (He.ga K "_law_pool") ["_law_cell_here"] (ct_law_pool K)) (F_law_built : Fn P w K mg base 8 (He.ga K "_law_built") ["_law_parts"] (ct_law_built K)) (F_law_net : Fn P w K mg base 8 (He.ga K "_law_net") ["_law_pool_here", "_law_most", "_law_lanes"] (ct_law_net K)) (F_Asked___init : Fn P w K mg base 8 (He.ma K (He.ga K "Asked") "__init__") ["self", "net", "wanted"] (ct_Asked___init K)) (F_Asked_net : Fn P w K mg base 6 (pga K (He.ga K "Asked") "net") ["self"] (ct_Asked_net K)) (F_Asked_round : Fn P w K mg base 12 (He.ma K (He.ga K "Asked") "round") ["self"] (ct_Asked_round K)) (F_Asked___bool : Fn P w K mg base 10 (He.ma K (He.ga K "Asked") "__bool__") ["self"] (ct_Asked___bool K)) (F_law_wanted : Fn P w K mg base 8 (He.ga K "_law_wanted") ["_law_pool_here", "_law_parts"] (ct_law_wanted K)) (F_law_in_part : Fn P w K mg base 8 (He.ga K "_law_in_part") ["_law_parts", "_law_wanted_here"] (ct_law_in_part K)) (F_law_is_round : Fn P w K mg base 6 (He.ga K "_law_is_round") ["_law_parts", "_law_lanes", "_law_wanted_here"] (ct_law_is_round K)) (F : FunD K "law" "law" (defArgs s_law) (defBody s_law) (defScope s_law) [] [] (He.ga K "law") fd) : FnOk P w K mg base (L2.CX P w) 14 (He.ga K "law") fd ["_law_script"] (spC K (ct_law K)) := by
  refine fn_okF F sc_law (fun _ _ _ _ _ _ us hl => match us, hl with | [_], _ => rfl) ct1_len (fun cdv A outer s H E hr => ⟨_, (pss_cons (ps_for (passes_of rfl) rfl (pi_range1 rfl T.n_range (pa_cons pe_int pa_nil)) (pg_name (i := 1) sc_law.nd rfl (by first | exact Or.inl rfl | exact Or.inr rfl)) (pss_cons (ps_set (i := 2) sc_law.nd rfl (by first | exact Or.inl rfl | exact Or.inr rfl) (pe_call (F_law_pool.up (by decide)).ok hr rfl T.g_law_pool.1 T.g_law_pool.2 (F_law_pool.up (by decide)).bn .nil (pass_own rfl rfl rfl rfl) (pa_cons (pe_op op_addU (pe_call (F_law_cell.up (by decide)).ok hr rfl T.g_law_cell.1 T.g_law_cell.2 (F_law_cell.up (by decide)).bn .nil (pass_own rfl rfl rfl rfl) (pa_cons (pv 0) (pa_cons (pv 1) pa_nil))) (pv 1)) pa_nil)))
      (pss_cons (ps_set (i := 3) sc_law.nd rfl (by first | exact Or.inl rfl | exact Or.inr rfl) (pe_call (F_law_net.up (by decide)).ok hr rfl T.g_law_net.1 T.g_law_net.2 (F_law_net.up (by decide)).bn .nil (pass_own rfl rfl rfl rfl) (pa_cons (pv 2) (pa_cons pe_int (pa_cons pe_int pa_nil)))))
      (pss_one (ps_if (pt_cmpR (op_neP (by have := (hr).units; exact this)) (pe_ix ix_seq (pv 3) pe_int fun _ _ => rfl) (pe_lst pa_nil) (nomark _))
      (pss_cons (ps_set (i := 4) sc_law.nd rfl (by first | exact Or.inl rfl | exact Or.inr rfl) (pe_call (F_law_wanted.up (by decide)).ok hr rfl T.g_law_wanted.1 T.g_law_wanted.2 (F_law_wanted.up (by decide)).bn .nil (pass_own rfl rfl rfl rfl) (pa_cons (pv 2) (pa_cons (pv 3) pa_nil))))
      (pss_cons (ps_set (i := 5) sc_law.nd rfl (by first | exact Or.inl rfl | exact Or.inr rfl) (pe_call (F_law_in_part.up (by decide)).ok hr rfl T.g_law_in_part.1 T.g_law_in_part.2 (F_law_in_part.up (by decide)).bn .nil (pass_own rfl rfl rfl rfl) (pa_cons (pv 3) (pa_cons (pv 4) pa_nil))))
      (pss_one (ps_for (passes_of rfl) rfl (pi_seq (pe_op op_addU (pe_lst (pa_cons (pv 4) (pa_cons (pe_slice sl_U (pv 4) po_none (po_some pe_int)) pa_nil))) (pe_lc (te := (tOp (rIx K) (tVar 5) (tC (.int 1)))) (tt := (tTest (tOp rNotN (tVar 5) (tC .non)))) (own := [("_law_turn", 7)]) rfl sc_law.nd (pi_range1 rfl T.n_range (pa_cons pe_int pa_nil)) (blk_ok ["_law_script", "_law_k", "_law_pool_here", "_law_parts", "_law_wanted_here", "_law_part_here", "_law_lot", "_law_turn", "_law_rows", "_law_net_here", "_law_asked", "_law_ring"] (defScope s_law) rfl rfl (by decide +kernel)) (fun _ _ _ _ _ => (pg_name (i := 7) sc_law.nd rfl (by first | exact Or.inl rfl | exact Or.inr rfl))) (fun _ _ _ _ _ => (pts_one (pt_cmpR op_notN1 (pv 5) pe_non (nomark _)))) (fun _ _ _ _ _ => (pe_ix ix_seq (pv 5) pe_int fun _ _ => rfl))))) (pg_name (i := 6) sc_law.nd rfl (by first | exact Or.inl rfl | exact Or.inr rfl)) (pss_one (ps_for (passes_of rfl) rfl (pi_seq (pe_lst (pa_cons (pe_ix ix_seq (pv 3) pe_int fun _ _ => rfl) (pa_cons (pe_revL (pe_ix ix_seq (pv 3) pe_int fun _ _ => rfl)) pa_nil)))) (pg_name (i := 8) sc_law.nd rfl (by first | exact Or.inl rfl | exact Or.inr rfl)) (pss_cons (ps_set (i := 9) sc_law.nd rfl (by first | exact Or.inl rfl | exact Or.inr rfl) (pe_call (F_law_built.up (by decide)).ok hr rfl T.g_law_built.1 T.g_law_built.2 (F_law_built.up (by decide)).bn .nil (pass_own rfl rfl rfl rfl) (pa_cons (pe_lst (pa_cons (pe_ix ix_seq (pv 3) pe_int fun _ _ => rfl) (pa_cons (pv 8) pa_nil))) pa_nil)))
      (pss_cons (ps_set (i := 10) sc_law.nd rfl (by first | exact Or.inl rfl | exact Or.inr rfl) (pe_make T.mk_Asked (F_Asked___init.up (by decide)).ok hr rfl T.g_Asked.1 (F_Asked___init.up (by decide)).bn .nil (pass_own rfl rfl rfl rfl) (pa_cons (pv 9) (pa_cons (pv 6) pa_nil))))
      (pss_one (ps_if (pt_val (pe_callTy (bool_ow T.sm_Asked_bool (F_Asked___bool.up (by decide)) hr (pass_own rfl rfl rfl rfl)) rfl T.n_bool (by decide +kernel) (pa_cons (pv 10) pa_nil)))
      (pss_cons (ps_set (i := 11) sc_law.nd rfl (by first | exact Or.inl rfl | exact Or.inr rfl) (pe_meth0 (pv 10) T.cl_Asked T.me_Asked_round (F_Asked_round.up (by decide)).ok hr (F_Asked_round.up (by decide)).bn .nil (pass_own rfl rfl rfl rfl)))
      (pss_cons (ps_if (PW.pt (pw_or (pt_not (pt_val (pe_callB call_isi rfl T.n_isinstance (by decide +kernel) (pa_cons (pv 11) (pa_cons (pe_glob (v := .ref (He.ga K "Round")) rfl T.g_Round.1 rfl) pa_nil))))) (pw_or1 (pt_not (pt_val (pe_call (F_law_is_round.up (by decide)).ok hr rfl T.g_law_is_round.1 T.g_law_is_round.2 (F_law_is_round.up (by decide)).bn .nil (pass_own rfl rfl rfl rfl) (pa_cons (pv 3) (pa_cons (pe_callTy call_lstU rfl T.n_list (by decide +kernel) (pa_cons (pe_prop (pv 11) T.cl_Round T.pr_Round_lanes (F_Round_lanes.up (by decide)).ok hr (F_Round_lanes.up (by decide)).bn .nil passes_no rfl) pa_nil)) (pa_cons (pv 6) pa_nil)))))))))
      (pss_one (ps_ret pe_bl))
      pss_nil)
      (pss_one (ps_if (PW.pt (pw_or (pt_not (pt_val (pe_call (F_fits.up (by decide)).ok hr rfl T.g_fits.1 T.g_fits.2 (F_fits.up (by decide)).bn .nil (pass_own rfl rfl rfl rfl) (pa_cons (pv 9) (pa_cons (pv 11) pa_nil))))) (pw_or1 (pt_not (pt_val (pe_call (F_fits.up (by decide)).ok hr rfl T.g_fits.1 T.g_fits.2 (F_fits.up (by decide)).bn .nil (pass_own rfl rfl rfl rfl) (pa_cons (pe_prop (pv 10) T.cl_Asked T.pr_Asked_net (F_Asked_net.up (by decide)).ok hr (F_Asked_net.up (by decide)).bn .nil passes_no rfl) (pa_cons (pe_meth0 (pv 10) T.cl_Asked T.me_Asked_round (F_Asked_round.up (by decide)).ok hr (F_Asked_round.up (by decide)).bn .nil (pass_own rfl rfl rfl rfl)) pa_nil))))))))
      (pss_one (ps_ret pe_bl))
      pss_nil))))
      (pss_one (ps_if (pt_cmpR op_notN1 (pe_call (F_law_in_part.up (by decide)).ok hr rfl T.g_law_in_part.1 T.g_law_in_part.2 (F_law_in_part.up (by decide)).bn .nil (pass_own rfl rfl rfl rfl) (pa_cons (pv 3) (pa_cons (pv 6) pa_nil))) pe_non (nomark _))
      (pss_one (ps_ret pe_bl))
      pss_nil))))))))))))
      pss_nil)))))
      (pss_one (ps_ret pe_bl))), fun ws ka out B F0 Q hC hR hX => ?_⟩)
  obtain ⟨s0, rfl, zs, hs0, rfl, rfl⟩ := hC
  refine q_forn (ei_range1 (ea1 ev_int) (by decide) (by decide)) (fun i ro ka => ∃ (v1 v2 v3 v4 v5 v6 v7 v8 v9 v10 v11 : Option W), ro = [some s0, v1, v2, v3, v4, v5, v6, v7, v8, v9, v10, v11] ∧ ka = []) ⟨_, _, _, _, _, _, _, _, _, _, _, rfl, rfl⟩ (fun i ro ka _ => trivial) (fun i w ro2 ka2 ta' hw ⟨v1, v2, v3, v4, v5, v6, v7, v8, v9, v10, v11, e1, e2⟩ => ?_) (fun ro2 ka2 ta' ⟨v1, v2, v3, v4, v5, v6, v7, v8, v9, v10, v11, e1, e2⟩ _ => ?_)
  rotate_left
  · subst e1 e2
    exact g_ret hR ev_bl ⟨rfl, rfl⟩
  subst e1 e2
  rw [List.getElem?_map] at hw
  obtain ⟨i', hi', rfl⟩ := Option.map_eq_some_iff.mp hw
  refine q_asgN (evn_callP (ea1 (ev_addI (ev_callP (ea2 (ev_var rfl) (ev_var rfl)) ⟨_, _, rfl, zs, i', hs0, rfl, rfl, rfl⟩) (ev_var rfl))) ⟨_, rfl, _, rfl, rfl, rfl⟩) (fun a => ?_)
  generalize hz : zs.getD i' 0 + (i' : Int) = z
  have hpz := plOf_ok z
  generalize plOf z = pz at *
  refine q_call (kr := []) (k1 := [(a, .lst pz.ds)]) (ea3 (ev_var rfl) ev_int ev_int) ⟨_, _, _, rfl, a, _, 0, 6, 10, rfl, rfl, rfl, rfl, hpz, by decide, by decide, by decide, by decide, by decide, by decide, rfl⟩ (fun o k ⟨ps, es, p', h, _⟩ => ⟨_, h⟩) ?_
  rintro _ _ ⟨ps, es, p1, e, rfl, hp1, hok, hpl, hel⟩
  cases e
  have hps : ∀ r ∈ es, r.2.2 ∈ ps := fun r hr => (hok.st r hr).2
  have hnm : ∀ s ∈ lnN es, isNm s = true := fun s hs => by
    obtain ⟨r, hr, rfl⟩ := List.mem_map.mp hs
    exact hok.en r hr
  by_cases h0 : es = []
  · subst h0
    exact g_if ((et_test (ev_ne (d := .lst []) (e := .lst []) (ev_ixV (ev_var rfl) ev_int .vl (atI_nat (j := 1) rfl)) (evn_lst (ds := []) ea_nil (by decide)).lst .v .v rfl rfl)).to (b := false) rfl) (fun z => by cases z) (fun _ => Gp.less (k1 := []) (g_next (g_jp ⟨_, _, _, _, _, _, _, _, _, _, _, rfl, rfl⟩)) (List.nil_sublist _))
  have hprw : ∀ fs : List Ln, (rwD fs).all (pl 60) = true := fun fs => List.all_eq_true.mpr fun d hd => by
    obtain ⟨r, _, rfl⟩ := List.mem_map.mp hd
    rfl
  refine g_if ((et_test (ev_ne (d := .lst (rwD es)) (e := .lst []) (ev_ixV (ev_var rfl) ev_int .vl (atI_nat (j := 1) rfl)) (evn_lst (ds := []) ea_nil (by decide)).lst .v .v (hprw es) rfl)).to (b := true) ?_) (fun _ => ?_) (fun z => by cases z)
  · cases es with
    | nil => exact absurd rfl h0
    | cons _ _ => rfl
  refine q_call (kr := []) (k1 := [(a, .lst p1.ds)]) (ea2 (ev_var rfl) (ev_var rfl)) ⟨_, _, rfl, a, p1, 300, ps, es, rfl, rfl, rfl, hp1.up (by decide), by decide, by decide, h0, hok.st, hok.ed, by omega, by omega, rfl⟩ (fun o k ⟨ws, p', h, _⟩ => ⟨_, h⟩) ?_
  rintro _ _ ⟨ws, p2, e, rfl, hp2, hwne, hwl, hws⟩
  cases e
  refine Gp.less (k1 := []) ?_ (List.nil_sublist _)
  refine q_asg (ev_callP (ea2 (ev_var rfl) (ev_var rfl)) ⟨_, _, rfl, ps, es, ws, rfl, rfl, hwne, by omega, hws, hok.st, hok.ed, by omega, by omega, rfl, rfl⟩) ?_
  obtain ⟨w0, wt, hwc⟩ : ∃ x t, ws = x :: t := by
    cases hc : ws with
    | nil => exact absurd hc hwne
    | cons x t => exact ⟨x, t, rfl⟩
  have hlots : ∀ l ∈ lotsL ws (ipF ps es ws), l ≠ [] ∧ l.length ≤ 50 ∧ ∀ x ∈ l, x ∈ lnN es := fun l hl => by
    unfold lotsL at hl
    rcases List.mem_append.mp hl with hl | hl
    · rcases List.mem_cons.mp hl with rfl | hl
      · exact ⟨hwne, hwl, hws⟩
      · obtain rfl := List.mem_singleton.mp hl
        refine ⟨by rw [hwc]; exact fun z => by simp at z, by rw [List.length_take]; omega, fun x hx => hws x (List.mem_of_mem_take hx)⟩
    · cases hi : ipF ps es ws with
      | none => rw [hi] at hl; cases hl
      | some q =>
        rw [hi] at hl
        rw [List.mem_singleton.mp hl]
        have hpw : pwF ps es (goalL es ws) = some q := ((pwF_mem (mem_goal hws)).trans (pw_ip hok hwne hws)).trans hi
        obtain ⟨e1, tw⟩ := tw_of hok hwne hws hpw
        have hw0 : w0 ∈ lnN (innR es q.1) := tw.gm w0 ((mem_goal hws w0).mpr (by rw [hwc]; exact List.mem_cons_self))
        have e2 : q.2 = lnN (innR es q.1) := e1
        rw [e2]
        refine ⟨fun z => (by rw [z] at hw0; cases hw0), ?_, fun x hx => ?_⟩
        · rw [lnN_len]
          have : (innR es q.1).length ≤ es.length := List.length_filter_le _ _
          omega
        · obtain ⟨r, m, rfl⟩ := List.mem_map.mp hx
          exact List.mem_map.mpr ⟨r, innR_sub m, rfl⟩
  refine g_forn (ei_map (ts := lotsL ws (ipF ps es ws)) (f := fun l => .lst (stD l)) ?lots) (fun i ro ka => ∃ (v1 v2 v6 v7 v8 v9 v10 v11 : Option W), ro = [some s0, v1, v2, some (.val (PtD ps es)), some (.val (.lst (stD ws))), some (.val (lpE (ipF ps es ws))), v6, v7, v8, v9, v10, v11] ∧ ka = []) ⟨_, _, _, _, _, _, _, _, rfl, rfl⟩ (fun i ro ka _ => trivial) (fun i w ro2 ka2 ta2 hw2 ⟨v1, v2, v6, v7, v8, v9, v10, v11, e1, e2⟩ => ?_) (fun ro2 ka2 ta2 ⟨v1, v2, v6, v7, v8, v9, v10, v11, e1, e2⟩ hsub => ?_)
  case lots =>
    have e1 := evn_lst (K := K) (tr := tCons (tVar 4) (tCons (tSl (rSlU K) (tVar 4) tNoPart (tPart (tC (.int 1)))) tNil)) (ro := [some s0, some (.val (.int i')), some (.val (.adr a)), some (.val (PtD ps es)), some (.val (.lst (stD ws))), some (.val (lpE (ipF ps es ws))), v6, v7, v8, v9, v10, v11]) (ka := []) (k1 := []) (ds := [.lst (stD ws), .lst (stD (ws.take 1))]) (ea2 (ev_var rfl) ((evn_sl (ev_var rfl) eo_none (eo_some ev_int) .vl).lst.to (congrArg (fun z => W.val (.lst z)) (by rw [cut_one]; exact List.map_take.symm)))) (show 2 ≤ 100000 by decide)
    cases hi : ipF ps es ws with
    | none =>
      rw [hi] at e1
      exact ((evn_op e1.lst (evn_filt (xs := List.range 1) (g := fun i : Nat => W.val (.int (i : Int))) (f := fun _ => D.non) (p := fun _ => false) (ei_range1 (ea1 ev_int) (by decide) (by decide)) (by decide) (by decide) ⟨trivial, fun _ => trivial⟩ (fun i hi => (et_test (ev_notN (d := lpE none) (ev_var rfl) (.inl rfl))).to rfl) (fun i hi z => by cases z)).lst (rvn_cat (b1 := false) (b2 := false) .vl .vl (show 2 ≤ 100000 by decide))).lst)
    | some q =>
      rw [hi] at e1
      exact ((evn_op e1.lst (evn_filt (xs := List.range 1) (g := fun i : Nat => W.val (.int (i : Int))) (f := fun _ => D.lst (stD q.2)) (p := fun _ => true) (ei_range1 (ea1 ev_int) (by decide) (by decide)) (by decide) (by decide) ⟨trivial, fun _ => trivial⟩ (fun i hi => (et_test (ev_notN (d := lpE (some q)) (ev_var rfl) (.inl rfl))).to rfl) (fun i hi _ => ev_ixV (ev_var rfl) ev_int .vl (atI_nat (j := 1) rfl))).lst (rvn_cat (b1 := false) (b2 := false) .vl .vl (show 3 ≤ 100000 by decide))).lst)
  · subst e1 e2
    rw [List.getElem?_map] at hw2
    obtain ⟨l, hl, rfl⟩ := Option.map_eq_some_iff.mp hw2
    obtain ⟨hlne, hll, hlm⟩ := hlots l (List.mem_of_getElem? hl)
    refine g_forn (ei_map (ts := [es, es.reverse]) (f := fun fs => .lst (rwD fs)) (evn_lst (ds := [.lst (rwD es), .lst (rwD es.reverse)]) (ea2 (ev_ixV (ev_var rfl) ev_int .vl (atI_nat (j := 1) rfl)) ((evn_revL (ds := rwD es) (ev_ixV (ev_var rfl) ev_int .vl (atI_nat (j := 1) rfl)) .vl (.inl rfl)).lst.to (congrArg (fun z => W.val (.lst z)) List.map_reverse.symm))) (show 2 ≤ 100000 by decide)).lst) (fun i ro ka => ∃ (v1 v2 v7 v8 v9 v10 v11 : Option W), ro = [some s0, v1, v2, some (.val (PtD ps es)), some (.val (.lst (stD ws))), some (.val (lpE (ipF ps es ws))), some (.val (.lst (stD l))), v7, v8, v9, v10, v11] ∧ ka = []) ⟨_, _, _, _, _, _, _, rfl, rfl⟩ (fun i ro ka _ => trivial) (fun i w ro2 ka2 ta3 hw3 ⟨v1, v2, v7, v8, v9, v10, v11, e1, e2⟩ => ?_) (fun ro2 ka2 ta3 ⟨v1, v2, v7, v8, v9, v10, v11, e1, e2⟩ hsub2 => ?_)
    · subst e1 e2
      rw [List.getElem?_map] at hw3
      obtain ⟨fs, hfs, rfl⟩ := Option.map_eq_some_iff.mp hw3
      have hfs2 : PtOk ps fs ∧ (∀ r, r ∈ es ↔ r ∈ fs) ∧ fs.length = es.length := by
        rcases List.mem_cons.mp (List.mem_of_getElem? hfs) with rfl | h
        · exact ⟨hok, fun _ => Iff.rfl, rfl⟩
        · rw [List.mem_singleton.mp h]
          exact ⟨hok.rev, fun r => List.mem_reverse.symm, List.length_reverse⟩
      obtain ⟨fok, fiff, fl⟩ := hfs2
      have flm : ∀ x ∈ l, x ∈ lnN fs := fun x hx => by
        obtain ⟨r, m, e⟩ := List.mem_map.mp (hlm x hx)
        exact List.mem_map.mpr ⟨r, (fiff r).mp m, e⟩
      refine q_call (kr := []) (k1 := []) (ea1 (evn_lst (ds := [.lst (stD ps), .lst (rwD fs)]) (ea2 (ev_ixV (ev_var rfl) ev_int .vl at0) (ev_var rfl)) (show 2 ≤ 100000 by decide)).lst) ⟨_, rfl, ps, fs, rfl, fok, rfl, rfl⟩ (fun o k ⟨a, o2, d, h, _⟩ => ⟨_, h⟩) ?_
      rintro _ _ ⟨an, o, d, e, rfl⟩
      cases e
      refine Gp.frzT (NetC K an o d ps fs) (kr := []) (List.Perm.of_eq (List.append_nil _).symm) net_kd (RoT.refl.set (i := 9) rfl (frz_net fun _ h => h)) ?_
      refine q_asgR (evr_make (P := fun w k => ∃ a n o d, w = .val (.adr a) ∧ k = AskC K a n o d ps fs (goalL fs l)) (wd := []) (k1 := []) (ea2 (ev_var rfl) (ev_var rfl)) dv_nil (fun a => ⟨_, ⟨_, _, _, rfl, a, ps, fs, l, false, rfl, rfl, rfl, .vl, by omega, by omega, fok.ed, rfl⟩, ?hO⟩)) (fun w k hk => ?go)
      case hO =>
        rw [if_neg hlne]
        have hf : (l.find? fun x => !decide (x ∈ lnN fs)) = none := List.find?_eq_none.mpr fun y hy => by simp [flm y hy]
        rw [hf]
        rintro o' k ⟨n, o, d, e1, e2⟩
        exact ⟨e1, a, n, o, d, rfl, e2⟩
      case go =>
      obtain ⟨ak, n, o1, d1, rfl, rfl⟩ := hk
      refine Gp.frzT (AskC K ak n o1 d1 ps fs (goalL fs l)) (kr := []) (List.Perm.refl _) ask_kd (RoT.refl.set (i := 10) rfl (frz_ask fun _ h => h)) ?_
      have fps : ∀ r ∈ fs, r.2.2 ∈ ps := fun r hr => (fok.st r hr).2
      have fnm : ∀ x ∈ lnN fs, isNm x = true := fun s hs => by
        obtain ⟨r, hr, rfl⟩ := List.mem_map.mp hs
        exact fok.en r hr
      have hpw : pwF ps fs (goalL fs l) = ipF ps fs l := (pwF_mem (mem_goal flm)).trans (pw_ip fok hlne flm)
      refine g_if (et_B (ev_boolO (ev_var rfl) .v ⟨_, rfl, ps, fs, goalL fs l, rfl, fok.pd, fps, fok.ed, by omega, by omega, rfl, rfl⟩)) (fun hb => ?_) (fun hb => ?_)
      · obtain ⟨q, hq⟩ := Option.isSome_iff_exists.mp hb
        obtain ⟨hq2, tw⟩ := tw_of fok hlne flm hq
        obtain ⟨p0, hwk⟩ := tw.closed
        have hwkf : Wk fs p0 _ p0 := hwk.mono fun r h => innR_sub h
        have hwke : Wk es p0 _ p0 := hwkf.mono fun r h => (fiff r).mpr h
        have htne := tw.ne'
        have hlen := tw.len (goalL fs l).length (Nat.le_refl _)
        have hhas : ∀ x ∈ l, x ∈ twL ps (innR fs q.1) (goalL fs l) (goalL fs l).length := fun x hx => tw.has x ((mem_goal flm x).mpr hx)
        have hgl := tw.gl
        have hlen2 : (goalL fs l).length * (1 + ps.length) ≤ 100 * 41 := Nat.mul_le_mul hgl (by have := fok.pl; omega)
        have con : ct_Asked_round K [.val (AskD K ps fs (goalL fs l))] [] (Rt (RD K (stD (twL ps (innR fs q.1) (goalL fs l) (goalL fs l).length))) []) := ⟨_, rfl, ps, fs, goalL fs l, q, rfl, fok.pd, fps, fok.ed, fnm, by omega, by omega, hq, hq2, tw, rfl, rfl⟩
        generalize twL ps (innR fs q.1) (goalL fs l) (goalL fs l).length = T1 at *
        have rb := rndB_wk hok.ed hwke htne hhas
        have fb := fitB_wk fok.ed hwkf
        refine q_asg (ev_methP (ev_var rfl) .v rfl ea_nil con) ?_
        refine q_when (et_or0 ((et_not (et_B (ev_isiC (ev_var rfl) (.io .v T.ci_Round) T.ko_Round_Round))).to (b := false) rfl) ((et_not (et_B (ev_callP (ea3 (ev_var rfl) (evn_cb (ea1 (ev_prop (k1 := []) [] (ev_var rfl) .v ⟨_, rfl, stD T1, rfl, rfl, rfl⟩ fun _ _ z => z)) (rcn_lst .vt (sqf_stD _ _))).lst (ev_var rfl)) ⟨_, _, _, rfl, ps, es, T1, l, rfl, rfl, rfl, hok.ed, by omega, by omega, by omega, rfl, rfl⟩))).to (b := false) (by rw [rb]; rfl))) (fun z => by cases z) (fun _ => ?_)
        exact g_if (et_or0 ((et_not (et_B (ev_callP (ea2 (ev_var rfl) (ev_var rfl)) ⟨_, _, rfl, ps, fs, T1, rfl, rfl, htne, by omega, fok.ed, rfl, rfl⟩))).to (b := false) (by rw [fb]; rfl)) ((et_not (et_B (ev_callP (ea2 (EvR.frzN (evr_prop (k1 := []) [] (ev_var rfl) .v ⟨_, rfl, ps, fs, goalL fs l, rfl, by omega, by omega, fok.ed, rfl, rfl⟩ (fun o k ⟨a, o2, d2, e, _⟩ => ⟨_, e⟩)) (k1 := []) (by rintro w k ⟨dd, k3, ⟨c, o2, d2, e1, rfl⟩, rfl, rfl⟩; cases e1; exact ⟨c, o2, d2, rfl, rfl⟩)) (ev_methP (ev_var rfl) .v rfl ea_nil con)) ⟨_, _, rfl, ps, fs, T1, rfl, rfl, htne, by omega, fok.ed, rfl, rfl⟩))).to (b := false) (by rw [fb]; rfl))) (fun z => by cases z) (fun _ => g_next (g_jp ⟨_, _, _, _, _, _, _, rfl, rfl⟩))
      · rw [Option.isSome_eq_false_iff] at hb
        have hn2 : isNonD (lpE (ipF ps es l)) = true := by
          rw [lpE_nn, ip_perm fiff hok.ed fok.ed hlm, ← hpw]
          exact hb
        exact g_if ((et_test (ev_notN (d := lpE (ipF ps es l)) (ev_callP (ea2 (ev_var rfl) (ev_var rfl)) ⟨_, _, rfl, ps, es, l, rfl, rfl, hlne, by omega, hlm, hok.st, hok.ed, by omega, by omega, rfl, rfl⟩) (.inl rfl))).to (b := false) (by rw [hn2]; rfl)) (fun z => by cases z) (fun _ => g_next (g_jp ⟨_, _, _, _, _, _, _, rfl, rfl⟩))
    · subst e1 e2
      exact g_jpH hsub2 ⟨_, _, _, _, _, _, _, _, rfl, rfl⟩
  · subst e1 e2
    exact g_jpH hsub ⟨_, _, _, _, _, _, _, _, _, _, _, rfl, rfl⟩
end
def exs0 : List Fx := [fStr "LETTERS" "abcdefghijklmnopqrstuvwxyz", fFree "len", fInt "LONGEST" 8, fFree "isinstance", fFree "str", fFree "all", fStr "DIGITS" "0123456789", fFree "bool", fFree "int", fFree "list", fT0 ("Net", some "__init__") 0, fFree "tuple", fGlo "is_name", fGlo "BadName", fGlo "NameTaken", fGlo "NoPost", fGlo "NoLane", fMkr "Net", fGlo "Net", fX0 "EmptyWalk", fGlo "EmptyWalk", fGlo "check_lanes", fGlo "is_whole", fGlo "BadNumber", fFree "range", fSm "Round" "__len__", fSm "Round" "__getitem__", fFn "Round" "__getitem__", fSm "Net" "__contains__", fCls "Net"]
def exs1 : List Fx := [fMeth "Net" "end_of", fMeth "Net" "start_of", fGlo "_law_take", fMeth "Net" "post", fMeth "Net" "lane", fGlo "_law_names", fGlo "_law_many", fFree "min", fGlo "_law_mixed", fGlo "reached_posts", fGlo "first_missing", fGlo "parts_of", fGlo "part_with", fGlo "NoRound", fFree "enumerate", fGlo "shortest_way", fX0 "NothingWanted", fGlo "NothingWanted", fMeth "Net" "copy", fProp "Net" "lanes", fGlo "found_part", fMkr "Round", fGlo "Round", fGlo "closed_walk", fGlo "inner_ends", fGlo "_law_ends", fGlo "_law_ways", fGlo "_law_part", fGlo "_law_pool", fGlo "_law_cell"]
def exs2 : List Fx := [fGlo "_law_net", fGlo "_law_wanted", fGlo "_law_in_part", fGlo "_law_built", fMkr "Asked", fGlo "Asked", fSm "Asked" "__bool__", fCls "Asked", fMeth "Asked" "round", fGlo "_law_is_round", fCls "Round", fProp "Round" "lanes", fGlo "fits", fProp "Asked" "net", fXc "BadName", fXi "BadName", fNoat "BadName" "name", fXc "NameTaken", fXi "NameTaken", fNoat "NameTaken" "name", fXc "NoPost", fXi "NoPost", fNoat "NoPost" "name", fXc "NoLane", fXi "NoLane", fNoat "NoLane" "name", fXc "BadNumber", fXi "BadNumber", fNoat "BadNumber" "value", fXc "NoRound"]
def exs3 : List Fx := [fXi "NoRound", fGlo "law", fKit "NoneType" "str" false, fKit "bool" "str" false, fKit "int" "str" false, fKit "list" "str" false, fKit "tuple" "str" false, fKit "str" "str" true, fKit "NoneType" "int" false, fKit "str" "int" false, fKit "list" "int" false, fKit "tuple" "int" false, fKit "int" "int" true, fKit "int" "bool" false, fKit "bool" "int" true, fKit "bool" "bool" true, fNoat "Net" "order", fNoat "Net" "ends_by_lane", fNoat "Round" "line", fNoat "Asked" "base", fNoat "Asked" "goal", fClsI "Round", fKitO "Round" "Round" true]
abbrev exs : List Fx := exs0 ++ exs1 ++ exs2 ++ exs3
def dfs0 : List Df := [⟨fun K => (He.ga K "is_name"), "is_name", "is_name", defArgs s_is_name, defBody s_is_name, defScope s_is_name, fun K => []⟩, ⟨fun K => (He.ga K "is_whole"), "is_whole", "is_whole", defArgs s_is_whole, defBody s_is_whole, defScope s_is_whole, fun K => []⟩, ⟨fun K => (He.ga K "first_missing"), "first_missing", "first_missing", defArgs s_first_missing, defBody s_first_missing, defScope s_first_missing, fun K => []⟩, ⟨fun K => (He.ma K (He.ga K "Net") "__init__"), "__init__", "Net.__init__", defArgs s_Net___init, defBody s_Net___init, defScope s_Net___init, fun K => [.ref (He.dflAt ("Net", some "__init__") 0 K), .non]⟩, ⟨fun K => (pga K (He.ga K "Net") "posts"), "posts", "Net.posts", defArgs s_Net_posts, defBody s_Net_posts, defScope s_Net_posts, fun K => []⟩, ⟨fun K => (pga K (He.ga K "Net") "lanes"), "lanes", "Net.lanes", defArgs s_Net_lanes, defBody s_Net_lanes, defScope s_Net_lanes, fun K => []⟩, ⟨fun K => (He.ma K (He.ga K "Net") "post"), "post", "Net.post", defArgs s_Net_post, defBody s_Net_post, defScope s_Net_post, fun K => []⟩, ⟨fun K => (He.ma K (He.ga K "Net") "lane"), "lane", "Net.lane", defArgs s_Net_lane, defBody s_Net_lane, defScope s_Net_lane, fun K => []⟩, ⟨fun K => (He.ma K (He.ga K "Net") "start_of"), "start_of", "Net.start_of", defArgs s_Net_start_of, defBody s_Net_start_of, defScope s_Net_start_of, fun K => []⟩, ⟨fun K => (He.ma K (He.ga K "Net") "end_of"), "end_of", "Net.end_of", defArgs s_Net_end_of, defBody s_Net_end_of, defScope s_Net_end_of, fun K => []⟩, ⟨fun K => (He.ma K (He.ga K "Net") "copy"), "copy", "Net.copy", defArgs s_Net_copy, defBody s_Net_copy, defScope s_Net_copy, fun K => []⟩, ⟨fun K => (He.ma K (He.ga K "Net") "__contains__"), "__contains__", "Net.__contains__", defArgs s_Net___contains, defBody s_Net___contains, defScope s_Net___contains, fun K => []⟩, ⟨fun K => (He.ga K "check_lanes"), "check_lanes", "check_lanes", defArgs s_check_lanes, defBody s_check_lanes, defScope s_check_lanes, fun K => []⟩, ⟨fun K => (He.ma K (He.ga K "Round") "__init__"), "__init__", "Round.__init__", defArgs s_Round___init, defBody s_Round___init, defScope s_Round___init, fun K => []⟩, ⟨fun K => (pga K (He.ga K "Round") "lanes"), "lanes", "Round.lanes", defArgs s_Round_lanes, defBody s_Round_lanes, defScope s_Round_lanes, fun K => []⟩, ⟨fun K => (He.ma K (He.ga K "Round") "__len__"), "__len__", "Round.__len__", defArgs s_Round___len, defBody s_Round___len, defScope s_Round___len, fun K => []⟩, ⟨fun K => (He.ma K (He.ga K "Round") "__getitem__"), "__getitem__", "Round.__getitem__", defArgs s_Round___getitem, defBody s_Round___getitem, defScope s_Round___getitem, fun K => []⟩, ⟨fun K => (He.ga K "fits"), "fits", "fits", defArgs s_fits, defBody s_fits, defScope s_fits, fun K => []⟩, ⟨fun K => (He.ga K "_law_cell"), "_law_cell", "_law_cell", defArgs s_law_cell, defBody s_law_cell, defScope s_law_cell, fun K => []⟩, ⟨fun K => (He.ga K "_law_pool"), "_law_pool", "_law_pool", defArgs s_law_pool, defBody s_law_pool, defScope s_law_pool, fun K => []⟩, ⟨fun K => (He.ga K "_law_take"), "_law_take", "_law_take", defArgs s_law_take, defBody s_law_take, defScope s_law_take, fun K => []⟩, ⟨fun K => (He.ga K "_law_names"), "_law_names", "_law_names", defArgs s_law_names, defBody s_law_names, defScope s_law_names, fun K => []⟩, ⟨fun K => (He.ga K "_law_many"), "_law_many", "_law_many", defArgs s_law_many, defBody s_law_many, defScope s_law_many, fun K => []⟩, ⟨fun K => (He.ga K "_law_mixed"), "_law_mixed", "_law_mixed", defArgs s_law_mixed, defBody s_law_mixed, defScope s_law_mixed, fun K => []⟩, ⟨fun K => (He.ga K "_law_built"), "_law_built", "_law_built", defArgs s_law_built, defBody s_law_built, defScope s_law_built, fun K => []⟩, ⟨fun K => (He.ga K "_law_net"), "_law_net", "_law_net", defArgs s_law_net, defBody s_law_net, defScope s_law_net, fun K => []⟩, ⟨fun K => (He.ga K "_law_ends"), "_law_ends", "_law_ends", defArgs s_law_ends, defBody s_law_ends, defScope s_law_ends, fun K => []⟩, ⟨fun K => (He.ga K "_law_ways"), "_law_ways", "_law_ways", defArgs s_law_ways, defBody s_law_ways, defScope s_law_ways, fun K => []⟩, ⟨fun K => (He.ga K "shortest_way"), "shortest_way", "shortest_way", defArgs s_shortest_way, defBody s_shortest_way, defScope s_shortest_way, fun K => []⟩, ⟨fun K => (He.ga K "reached_posts"), "reached_posts", "reached_posts", defArgs s_reached_posts, defBody s_reached_posts, defScope s_reached_posts, fun K => []⟩]
def dfs1 : List Df := [⟨fun K => (He.ga K "parts_of"), "parts_of", "parts_of", defArgs s_parts_of, defBody s_parts_of, defScope s_parts_of, fun K => []⟩, ⟨fun K => (He.ga K "part_with"), "part_with", "part_with", defArgs s_part_with, defBody s_part_with, defScope s_part_with, fun K => []⟩, ⟨fun K => (He.ga K "found_part"), "found_part", "found_part", defArgs s_found_part, defBody s_found_part, defScope s_found_part, fun K => []⟩, ⟨fun K => (He.ga K "inner_ends"), "inner_ends", "inner_ends", defArgs s_inner_ends, defBody s_inner_ends, defScope s_inner_ends, fun K => []⟩, ⟨fun K => (He.ga K "closed_walk"), "closed_walk", "closed_walk", defArgs s_closed_walk, defBody s_closed_walk, defScope s_closed_walk, fun K => []⟩, ⟨fun K => (He.ma K (He.ga K "Asked") "__init__"), "__init__", "Asked.__init__", defArgs s_Asked___init, defBody s_Asked___init, defScope s_Asked___init, fun K => []⟩, ⟨fun K => (pga K (He.ga K "Asked") "net"), "net", "Asked.net", defArgs s_Asked_net, defBody s_Asked_net, defScope s_Asked_net, fun K => []⟩, ⟨fun K => (He.ma K (He.ga K "Asked") "round"), "round", "Asked.round", defArgs s_Asked_round, defBody s_Asked_round, defScope s_Asked_round, fun K => []⟩, ⟨fun K => (He.ma K (He.ga K "Asked") "__bool__"), "__bool__", "Asked.__bool__", defArgs s_Asked___bool, defBody s_Asked___bool, defScope s_Asked___bool, fun K => []⟩, ⟨fun K => (He.ga K "_law_part"), "_law_part", "_law_part", defArgs s_law_part, defBody s_law_part, defScope s_law_part, fun K => []⟩, ⟨fun K => (He.ga K "_law_wanted"), "_law_wanted", "_law_wanted", defArgs s_law_wanted, defBody s_law_wanted, defScope s_law_wanted, fun K => []⟩, ⟨fun K => (He.ga K "_law_in_part"), "_law_in_part", "_law_in_part", defArgs s_law_in_part, defBody s_law_in_part, defScope s_law_in_part, fun K => []⟩, ⟨fun K => (He.ga K "_law_is_round"), "_law_is_round", "_law_is_round", defArgs s_law_is_round, defBody s_law_is_round, defScope s_law_is_round, fun K => []⟩, ⟨fun K => (He.ga K "law"), "law", "law", defArgs s_law, defBody s_law, defScope s_law, fun K => []⟩, ⟨fun K => (He.ma K (He.ga K "BadName") "__init__"), "__init__", "BadName.__init__", defArgs s_BadName___init, defBody s_BadName___init, defScope s_BadName___init, fun K => []⟩, ⟨fun K => (He.ma K (He.ga K "NameTaken") "__init__"), "__init__", "NameTaken.__init__", defArgs s_NameTaken___init, defBody s_NameTaken___init, defScope s_NameTaken___init, fun K => []⟩, ⟨fun K => (He.ma K (He.ga K "NoPost") "__init__"), "__init__", "NoPost.__init__", defArgs s_NoPost___init, defBody s_NoPost___init, defScope s_NoPost___init, fun K => []⟩, ⟨fun K => (He.ma K (He.ga K "NoLane") "__init__"), "__init__", "NoLane.__init__", defArgs s_NoLane___init, defBody s_NoLane___init, defScope s_NoLane___init, fun K => []⟩, ⟨fun K => (He.ma K (He.ga K "BadNumber") "__init__"), "__init__", "BadNumber.__init__", defArgs s_BadNumber___init, defBody s_BadNumber___init, defScope s_BadNumber___init, fun K => []⟩, ⟨fun K => (He.ma K (He.ga K "NoRound") "__init__"), "__init__", "NoRound.__init__", defArgs s_NoRound___init, defBody s_NoRound___init, defScope s_NoRound___init, fun K => []⟩]
abbrev dfs : List Df := dfs0 ++ dfs1
theorem tx_of {K : PySem.W.Frag} {mg : Str → Option Value} {h : Heap} (X : K.In h) (G : h.Ns mainGlobals mg) (c : SaysY exs dfs K) : Tx K mg where
  v_LETTERS := (let ⟨t, e⟩ := He.str_ok X G (c.fact 0 (f := fStr "LETTERS" "abcdefghijklmnopqrstuvwxyz")); ⟨_, e, t, rfl⟩)
  n_len := He.free_ok X G (c.fact 1 (f := fFree "len"))
  v_LONGEST := (let ⟨t, e⟩ := He.int_ok X G (c.fact 2 (f := fInt "LONGEST" 8)); ⟨_, e, t, rfl⟩)
  n_isinstance := He.free_ok X G (c.fact 3 (f := fFree "isinstance"))
  n_str := He.free_ok X G (c.fact 4 (f := fFree "str"))
  n_all := He.free_ok X G (c.fact 5 (f := fFree "all"))
  v_DIGITS := (let ⟨t, e⟩ := He.str_ok X G (c.fact 6 (f := fStr "DIGITS" "0123456789")); ⟨_, e, t, rfl⟩)
  n_bool := He.free_ok X G (c.fact 7 (f := fFree "bool"))
  n_int := He.free_ok X G (c.fact 8 (f := fFree "int"))
  n_list := He.free_ok X G (c.fact 9 (f := fFree "list"))
  t0_Net___init := t0_ok (c.fact 10 (f := fT0 ("Net", some "__init__") 0))
  n_tuple := He.free_ok X G (c.fact 11 (f := fFree "tuple"))
  g_is_name := ⟨He.glo_ok X G (He.ba (c.fact 12 (f := fGlo "is_name"))).1, (He.ba (c.fact 12 (f := fGlo "is_name"))).2⟩
  g_BadName := ⟨He.glo_ok X G (He.ba (c.fact 13 (f := fGlo "BadName"))).1, (He.ba (c.fact 13 (f := fGlo "BadName"))).2⟩
  g_NameTaken := ⟨He.glo_ok X G (He.ba (c.fact 14 (f := fGlo "NameTaken"))).1, (He.ba (c.fact 14 (f := fGlo "NameTaken"))).2⟩
  g_NoPost := ⟨He.glo_ok X G (He.ba (c.fact 15 (f := fGlo "NoPost"))).1, (He.ba (c.fact 15 (f := fGlo "NoPost"))).2⟩
  g_NoLane := ⟨He.glo_ok X G (He.ba (c.fact 16 (f := fGlo "NoLane"))).1, (He.ba (c.fact 16 (f := fGlo "NoLane"))).2⟩
  mk_Net := He.mkr_ok (c.fact 17 (f := fMkr "Net"))
  g_Net := ⟨He.glo_ok X G (He.ba (c.fact 18 (f := fGlo "Net"))).1, (He.ba (c.fact 18 (f := fGlo "Net"))).2⟩
  x0_EmptyWalk := He.exc_ok (c.fact 19 (f := fX0 "EmptyWalk"))
  g_EmptyWalk := ⟨He.glo_ok X G (He.ba (c.fact 20 (f := fGlo "EmptyWalk"))).1, (He.ba (c.fact 20 (f := fGlo "EmptyWalk"))).2⟩
  g_check_lanes := ⟨He.glo_ok X G (He.ba (c.fact 21 (f := fGlo "check_lanes"))).1, (He.ba (c.fact 21 (f := fGlo "check_lanes"))).2⟩
  g_is_whole := ⟨He.glo_ok X G (He.ba (c.fact 22 (f := fGlo "is_whole"))).1, (He.ba (c.fact 22 (f := fGlo "is_whole"))).2⟩
  g_BadNumber := ⟨He.glo_ok X G (He.ba (c.fact 23 (f := fGlo "BadNumber"))).1, (He.ba (c.fact 23 (f := fGlo "BadNumber"))).2⟩
  n_range := He.free_ok X G (c.fact 24 (f := fFree "range"))
  sm_Round_len := sm_ok (c.fact 25 (f := fSm "Round" "__len__"))
  sm_Round_getitem := sm_ok (c.fact 26 (f := fSm "Round" "__getitem__"))
  ff_Round_getitem := (c.fact 27 (f := fFn "Round" "__getitem__"))
  sm_Net_contains := sm_ok (c.fact 28 (f := fSm "Net" "__contains__"))
  cl_Net := He.cls_ok (c.fact 29 (f := fCls "Net"))
  me_Net_end_of := He.meth_ok (c.fact 30 (f := fMeth "Net" "end_of"))
  me_Net_start_of := He.meth_ok (c.fact 31 (f := fMeth "Net" "start_of"))
  g_law_take := ⟨He.glo_ok X G (He.ba (c.fact 32 (f := fGlo "_law_take"))).1, (He.ba (c.fact 32 (f := fGlo "_law_take"))).2⟩
  me_Net_post := He.meth_ok (c.fact 33 (f := fMeth "Net" "post"))
  me_Net_lane := He.meth_ok (c.fact 34 (f := fMeth "Net" "lane"))
  g_law_names := ⟨He.glo_ok X G (He.ba (c.fact 35 (f := fGlo "_law_names"))).1, (He.ba (c.fact 35 (f := fGlo "_law_names"))).2⟩
  g_law_many := ⟨He.glo_ok X G (He.ba (c.fact 36 (f := fGlo "_law_many"))).1, (He.ba (c.fact 36 (f := fGlo "_law_many"))).2⟩
  n_min := He.free_ok X G (c.fact 37 (f := fFree "min"))
  g_law_mixed := ⟨He.glo_ok X G (He.ba (c.fact 38 (f := fGlo "_law_mixed"))).1, (He.ba (c.fact 38 (f := fGlo "_law_mixed"))).2⟩
  g_reached_posts := ⟨He.glo_ok X G (He.ba (c.fact 39 (f := fGlo "reached_posts"))).1, (He.ba (c.fact 39 (f := fGlo "reached_posts"))).2⟩
  g_first_missing := ⟨He.glo_ok X G (He.ba (c.fact 40 (f := fGlo "first_missing"))).1, (He.ba (c.fact 40 (f := fGlo "first_missing"))).2⟩
  g_parts_of := ⟨He.glo_ok X G (He.ba (c.fact 41 (f := fGlo "parts_of"))).1, (He.ba (c.fact 41 (f := fGlo "parts_of"))).2⟩
  g_part_with := ⟨He.glo_ok X G (He.ba (c.fact 42 (f := fGlo "part_with"))).1, (He.ba (c.fact 42 (f := fGlo "part_with"))).2⟩
  g_NoRound := ⟨He.glo_ok X G (He.ba (c.fact 43 (f := fGlo "NoRound"))).1, (He.ba (c.fact 43 (f := fGlo "NoRound"))).2⟩
  n_enumerate := He.free_ok X G (c.fact 44 (f := fFree "enumerate"))
  g_shortest_way := ⟨He.glo_ok X G (He.ba (c.fact 45 (f := fGlo "shortest_way"))).1, (He.ba (c.fact 45 (f := fGlo "shortest_way"))).2⟩
  x0_NothingWanted := He.exc_ok (c.fact 46 (f := fX0 "NothingWanted"))
  g_NothingWanted := ⟨He.glo_ok X G (He.ba (c.fact 47 (f := fGlo "NothingWanted"))).1, (He.ba (c.fact 47 (f := fGlo "NothingWanted"))).2⟩
  me_Net_copy := He.meth_ok (c.fact 48 (f := fMeth "Net" "copy"))
  pr_Net_lanes := prop_ok (c.fact 49 (f := fProp "Net" "lanes"))
  g_found_part := ⟨He.glo_ok X G (He.ba (c.fact 50 (f := fGlo "found_part"))).1, (He.ba (c.fact 50 (f := fGlo "found_part"))).2⟩
  mk_Round := He.mkr_ok (c.fact 51 (f := fMkr "Round"))
  g_Round := ⟨He.glo_ok X G (He.ba (c.fact 52 (f := fGlo "Round"))).1, (He.ba (c.fact 52 (f := fGlo "Round"))).2⟩
  g_closed_walk := ⟨He.glo_ok X G (He.ba (c.fact 53 (f := fGlo "closed_walk"))).1, (He.ba (c.fact 53 (f := fGlo "closed_walk"))).2⟩
  g_inner_ends := ⟨He.glo_ok X G (He.ba (c.fact 54 (f := fGlo "inner_ends"))).1, (He.ba (c.fact 54 (f := fGlo "inner_ends"))).2⟩
  g_law_ends := ⟨He.glo_ok X G (He.ba (c.fact 55 (f := fGlo "_law_ends"))).1, (He.ba (c.fact 55 (f := fGlo "_law_ends"))).2⟩
  g_law_ways := ⟨He.glo_ok X G (He.ba (c.fact 56 (f := fGlo "_law_ways"))).1, (He.ba (c.fact 56 (f := fGlo "_law_ways"))).2⟩
  g_law_part := ⟨He.glo_ok X G (He.ba (c.fact 57 (f := fGlo "_law_part"))).1, (He.ba (c.fact 57 (f := fGlo "_law_part"))).2⟩
  g_law_pool := ⟨He.glo_ok X G (He.ba (c.fact 58 (f := fGlo "_law_pool"))).1, (He.ba (c.fact 58 (f := fGlo "_law_pool"))).2⟩
  g_law_cell := ⟨He.glo_ok X G (He.ba (c.fact 59 (f := fGlo "_law_cell"))).1, (He.ba (c.fact 59 (f := fGlo "_law_cell"))).2⟩
  g_law_net := ⟨He.glo_ok X G (He.ba (c.fact 60 (f := fGlo "_law_net"))).1, (He.ba (c.fact 60 (f := fGlo "_law_net"))).2⟩
  g_law_wanted := ⟨He.glo_ok X G (He.ba (c.fact 61 (f := fGlo "_law_wanted"))).1, (He.ba (c.fact 61 (f := fGlo "_law_wanted"))).2⟩
  g_law_in_part := ⟨He.glo_ok X G (He.ba (c.fact 62 (f := fGlo "_law_in_part"))).1, (He.ba (c.fact 62 (f := fGlo "_law_in_part"))).2⟩
  g_law_built := ⟨He.glo_ok X G (He.ba (c.fact 63 (f := fGlo "_law_built"))).1, (He.ba (c.fact 63 (f := fGlo "_law_built"))).2⟩
  mk_Asked := He.mkr_ok (c.fact 64 (f := fMkr "Asked"))
  g_Asked := ⟨He.glo_ok X G (He.ba (c.fact 65 (f := fGlo "Asked"))).1, (He.ba (c.fact 65 (f := fGlo "Asked"))).2⟩
  sm_Asked_bool := sm_ok (c.fact 66 (f := fSm "Asked" "__bool__"))
  cl_Asked := He.cls_ok (c.fact 67 (f := fCls "Asked"))
  me_Asked_round := He.meth_ok (c.fact 68 (f := fMeth "Asked" "round"))
  g_law_is_round := ⟨He.glo_ok X G (He.ba (c.fact 69 (f := fGlo "_law_is_round"))).1, (He.ba (c.fact 69 (f := fGlo "_law_is_round"))).2⟩
  cl_Round := He.cls_ok (c.fact 70 (f := fCls "Round"))
  pr_Round_lanes := prop_ok (c.fact 71 (f := fProp "Round" "lanes"))
  g_fits := ⟨He.glo_ok X G (He.ba (c.fact 72 (f := fGlo "fits"))).1, (He.ba (c.fact 72 (f := fGlo "fits"))).2⟩
  pr_Asked_net := prop_ok (c.fact 73 (f := fProp "Asked" "net"))
  xc_BadName := xcB_ok (c.fact 74 (f := fXc "BadName"))
  xi_BadName := xi_ok (c.fact 75 (f := fXi "BadName"))
  xn_BadName_name := He.noat_ok (c.fact 76 (f := fNoat "BadName" "name"))
  xc_NameTaken := xcB_ok (c.fact 77 (f := fXc "NameTaken"))
  xi_NameTaken := xi_ok (c.fact 78 (f := fXi "NameTaken"))
  xn_NameTaken_name := He.noat_ok (c.fact 79 (f := fNoat "NameTaken" "name"))
  xc_NoPost := xcB_ok (c.fact 80 (f := fXc "NoPost"))
  xi_NoPost := xi_ok (c.fact 81 (f := fXi "NoPost"))
  xn_NoPost_name := He.noat_ok (c.fact 82 (f := fNoat "NoPost" "name"))
  xc_NoLane := xcB_ok (c.fact 83 (f := fXc "NoLane"))
  xi_NoLane := xi_ok (c.fact 84 (f := fXi "NoLane"))
  xn_NoLane_name := He.noat_ok (c.fact 85 (f := fNoat "NoLane" "name"))
  xc_BadNumber := xcB_ok (c.fact 86 (f := fXc "BadNumber"))
  xi_BadNumber := xi_ok (c.fact 87 (f := fXi "BadNumber"))
  xn_BadNumber_value := He.noat_ok (c.fact 88 (f := fNoat "BadNumber" "value"))
  xc_NoRound := xcB_ok (c.fact 89 (f := fXc "NoRound"))
  xi_NoRound := xi_ok (c.fact 90 (f := fXi "NoRound"))
  g_law := ⟨He.glo_ok X G (He.ba (c.fact 91 (f := fGlo "law"))).1, (He.ba (c.fact 91 (f := fGlo "law"))).2⟩
  kt_NoneType_str := kit_ok (c.fact 92 (f := fKit "NoneType" "str" false))
  kt_bool_str := kit_ok (c.fact 93 (f := fKit "bool" "str" false))
  kt_int_str := kit_ok (c.fact 94 (f := fKit "int" "str" false))
  kt_list_str := kit_ok (c.fact 95 (f := fKit "list" "str" false))
  kt_tuple_str := kit_ok (c.fact 96 (f := fKit "tuple" "str" false))
  kt_str_str := kit_ok (c.fact 97 (f := fKit "str" "str" true))
  kt_NoneType_int := kit_ok (c.fact 98 (f := fKit "NoneType" "int" false))
  kt_str_int := kit_ok (c.fact 99 (f := fKit "str" "int" false))
  kt_list_int := kit_ok (c.fact 100 (f := fKit "list" "int" false))
  kt_tuple_int := kit_ok (c.fact 101 (f := fKit "tuple" "int" false))
  kt_int_int := kit_ok (c.fact 102 (f := fKit "int" "int" true))
  kt_int_bool := kit_ok (c.fact 103 (f := fKit "int" "bool" false))
  kt_bool_int := kit_ok (c.fact 104 (f := fKit "bool" "int" true))
  kt_bool_bool := kit_ok (c.fact 105 (f := fKit "bool" "bool" true))
  na_Net_order := He.noat_ok (c.fact 106 (f := fNoat "Net" "order"))
  na_Net_ends_by_lane := He.noat_ok (c.fact 107 (f := fNoat "Net" "ends_by_lane"))
  na_Round_line := He.noat_ok (c.fact 108 (f := fNoat "Round" "line"))
  na_Asked_base := He.noat_ok (c.fact 109 (f := fNoat "Asked" "base"))
  na_Asked_goal := He.noat_ok (c.fact 110 (f := fNoat "Asked" "goal"))
  ci_Round := clsI_ok (c.fact 111 (f := fClsI "Round"))
  ko_Round_Round := kitO_ok (c.fact 112 (f := fKitO "Round" "Round" true))
  d_is_name := c.def_ 0
  d_is_whole := c.def_ 1
  d_first_missing := c.def_ 2
  d_Net___init := c.def_ 3
  d_Net_posts := c.def_ 4
  d_Net_lanes := c.def_ 5
  d_Net_post := c.def_ 6
  d_Net_lane := c.def_ 7
  d_Net_start_of := c.def_ 8
  d_Net_end_of := c.def_ 9
  d_Net_copy := c.def_ 10
  d_Net___contains := c.def_ 11
  d_check_lanes := c.def_ 12
  d_Round___init := c.def_ 13
  d_Round_lanes := c.def_ 14
  d_Round___len := c.def_ 15
  d_Round___getitem := c.def_ 16
  d_fits := c.def_ 17
  d_law_cell := c.def_ 18
  d_law_pool := c.def_ 19
  d_law_take := c.def_ 20
  d_law_names := c.def_ 21
  d_law_many := c.def_ 22
  d_law_mixed := c.def_ 23
  d_law_built := c.def_ 24
  d_law_net := c.def_ 25
  d_law_ends := c.def_ 26
  d_law_ways := c.def_ 27
  d_shortest_way := c.def_ 28
  d_reached_posts := c.def_ 29
  d_parts_of := c.def_ 30
  d_part_with := c.def_ 31
  d_found_part := c.def_ 32
  d_inner_ends := c.def_ 33
  d_closed_walk := c.def_ 34
  d_Asked___init := c.def_ 35
  d_Asked_net := c.def_ 36
  d_Asked_round := c.def_ 37
  d_Asked___bool := c.def_ 38
  d_law_part := c.def_ 39
  d_law_wanted := c.def_ 40
  d_law_in_part := c.def_ 41
  d_law_is_round := c.def_ 42
  d_law := c.def_ 43
  d_BadName___init := c.def_ 44
  d_NameTaken___init := c.def_ 45
  d_NoPost___init := c.def_ 46
  d_NoLane___init := c.def_ 47
  d_BadNumber___init := c.def_ 48
  d_NoRound___init := c.def_ 49
section
variable {P : Program} {w : World} {K : PySem.W.Frag} {mg : Str → Option Value} {base : Heap}
theorem z_BadName (T : Tx K mg) : Xn P w K mg base (He.ga K "BadName") "name" := by
  obtain ⟨fd, F⟩ := T.d_BadName___init
  exact ⟨T.xc_BadName, T.xn_BadName_name, _, fd, "name", T.xi_BadName.1, T.xi_BadName.2, init1_ok F sc_BadName___init (fun cdv A outer s H E => pss_one (ps_ost (pv 0) (pv 1))), F.bindsN (fun _ _ _ _ _ _ us hl => match us, hl with | [_, _], _ => rfl)⟩
theorem z_NameTaken (T : Tx K mg) : Xn P w K mg base (He.ga K "NameTaken") "name" := by
  obtain ⟨fd, F⟩ := T.d_NameTaken___init
  exact ⟨T.xc_NameTaken, T.xn_NameTaken_name, _, fd, "name", T.xi_NameTaken.1, T.xi_NameTaken.2, init1_ok F sc_NameTaken___init (fun cdv A outer s H E => pss_one (ps_ost (pv 0) (pv 1))), F.bindsN (fun _ _ _ _ _ _ us hl => match us, hl with | [_, _], _ => rfl)⟩
theorem z_NoPost (T : Tx K mg) : Xn P w K mg base (He.ga K "NoPost") "name" := by
  obtain ⟨fd, F⟩ := T.d_NoPost___init
  exact ⟨T.xc_NoPost, T.xn_NoPost_name, _, fd, "name", T.xi_NoPost.1, T.xi_NoPost.2, init1_ok F sc_NoPost___init (fun cdv A outer s H E => pss_one (ps_ost (pv 0) (pv 1))), F.bindsN (fun _ _ _ _ _ _ us hl => match us, hl with | [_, _], _ => rfl)⟩
theorem z_NoLane (T : Tx K mg) : Xn P w K mg base (He.ga K "NoLane") "name" := by
  obtain ⟨fd, F⟩ := T.d_NoLane___init
  exact ⟨T.xc_NoLane, T.xn_NoLane_name, _, fd, "name", T.xi_NoLane.1, T.xi_NoLane.2, init1_ok F sc_NoLane___init (fun cdv A outer s H E => pss_one (ps_ost (pv 0) (pv 1))), F.bindsN (fun _ _ _ _ _ _ us hl => match us, hl with | [_, _], _ => rfl)⟩
theorem z_BadNumber (T : Tx K mg) : Xn P w K mg base (He.ga K "BadNumber") "value" := by
  obtain ⟨fd, F⟩ := T.d_BadNumber___init
  exact ⟨T.xc_BadNumber, T.xn_BadNumber_value, _, fd, "value", T.xi_BadNumber.1, T.xi_BadNumber.2, init1_ok F sc_BadNumber___init (fun cdv A outer s H E => pss_one (ps_ost (pv 0) (pv 1))), F.bindsN (fun _ _ _ _ _ _ us hl => match us, hl with | [_, _], _ => rfl)⟩
theorem z_NoRound (T : Tx K mg) : Xf P w K mg base (He.ga K "NoRound") := by
  obtain ⟨fd, F⟩ := T.d_NoRound___init
  exact ⟨T.xc_NoRound, _, fd, ["self", "first", "second", "side"], T.xi_NoRound.1, T.xi_NoRound.2, initF_ok F sc_NoRound___init, F.bindsN (fun _ _ _ _ _ _ us hl => match us, hl with | [_, _, _, _], _ => rfl)⟩
theorem all_ok {fd : FuncData} (T : Tx K mg) (F : FunD K "law" "law" (defArgs s_law) (defBody s_law) (defScope s_law) [] [] (He.ga K "law") fd) : FnOk P w K mg base (L2.CX P w) 14 (He.ga K "law") fd ["_law_script"] (spC K (ct_law K)) := by
  have Z_BadName : Xn P w K mg base (He.ga K "BadName") "name" := z_BadName T
  have Z_NameTaken : Xn P w K mg base (He.ga K "NameTaken") "name" := z_NameTaken T
  have Z_NoPost : Xn P w K mg base (He.ga K "NoPost") "name" := z_NoPost T
  have Z_NoLane : Xn P w K mg base (He.ga K "NoLane") "name" := z_NoLane T
  have Z_BadNumber : Xn P w K mg base (He.ga K "BadNumber") "value" := z_BadNumber T
  have Z_NoRound : Xf P w K mg base (He.ga K "NoRound") := z_NoRound T
  have F_is_name : Fn P w K mg base 4 (He.ga K "is_name") ["word"] (ct_is_name K) := ok_is_name T
  have F_is_whole : Fn P w K mg base 4 (He.ga K "is_whole") ["value"] (ct_is_whole K) := ok_is_whole T
  have F_first_missing : Fn P w K mg base 4 (He.ga K "first_missing") ["names", "known"] (ct_first_missing K) := ok_first_missing T
  have F_Net___init : FnE P w K mg base 4 (He.ma K (He.ga K "Net") "__init__") ["self", "order", "ends_by_lane"] [.ref (He.dflAt ("Net", some "__init__") 0 K), .non] (ct_Net___init K) := ok_Net___init T
  have F_Net_posts : Fn P w K mg base 4 (pga K (He.ga K "Net") "posts") ["self"] (ct_Net_posts K) := ok_Net_posts T
  have F_Net_lanes : Fn P w K mg base 4 (pga K (He.ga K "Net") "lanes") ["self"] (ct_Net_lanes K) := ok_Net_lanes T
  have F_Net_post : Fn P w K mg base 6 (He.ma K (He.ga K "Net") "post") ["self", "name"] (ct_Net_post K) := ok_Net_post T F_is_name Z_BadName Z_NameTaken
  have F_Net_lane : Fn P w K mg base 6 (He.ma K (He.ga K "Net") "lane") ["self", "name", "start", "end"] (ct_Net_lane K) := ok_Net_lane T F_is_name Z_BadName Z_NameTaken Z_NoPost
  have F_Net_start_of : Fn P w K mg base 4 (He.ma K (He.ga K "Net") "start_of") ["self", "lane"] (ct_Net_start_of K) := ok_Net_start_of T Z_NoLane
  have F_Net_end_of : Fn P w K mg base 4 (He.ma K (He.ga K "Net") "end_of") ["self", "lane"] (ct_Net_end_of K) := ok_Net_end_of T Z_NoLane
  have F_Net_copy : Fn P w K mg base 6 (He.ma K (He.ga K "Net") "copy") ["self"] (ct_Net_copy K) := ok_Net_copy T F_Net___init
  have F_Net___contains : Fn P w K mg base 4 (He.ma K (He.ga K "Net") "__contains__") ["self", "lane"] (ct_Net___contains K) := ok_Net___contains T
  have F_check_lanes : Fn P w K mg base 6 (He.ga K "check_lanes") ["lanes"] (ct_check_lanes K) := ok_check_lanes T F_is_name Z_BadName
  have F_Round___init : Fn P w K mg base 8 (He.ma K (He.ga K "Round") "__init__") ["self", "lanes"] (ct_Round___init K) := ok_Round___init T F_check_lanes
  have F_Round_lanes : Fn P w K mg base 4 (pga K (He.ga K "Round") "lanes") ["self"] (ct_Round_lanes K) := ok_Round_lanes T
  have F_Round___len : Fn P w K mg base 4 (He.ma K (He.ga K "Round") "__len__") ["self"] (ct_Round___len K) := ok_Round___len T
  have F_Round___getitem : Fn P w K mg base 6 (He.ma K (He.ga K "Round") "__getitem__") ["self", "place"] (ct_Round___getitem K) := ok_Round___getitem T F_is_whole Z_BadNumber
  have F_fits : Fn P w K mg base 8 (He.ga K "fits") ["net", "ring"] (ct_fits K) := ok_fits T F_Net_start_of F_Net_end_of F_Net___contains F_Round___len F_Round___getitem
  have F_law_cell : Fn P w K mg base 4 (He.ga K "_law_cell") ["_law_script", "_law_k"] (ct_law_cell K) := ok_law_cell T
  have F_law_pool : Fn P w K mg base 4 (He.ga K "_law_pool") ["_law_cell_here"] (ct_law_pool K) := ok_law_pool T
  have F_law_take : Fn P w K mg base 4 (He.ga K "_law_take") ["_law_pool_here", "_law_many_here"] (ct_law_take K) := ok_law_take T
  have F_law_names : Fn P w K mg base 6 (He.ga K "_law_names") ["_law_pool_here", "_law_many_here"] (ct_law_names K) := ok_law_names T F_law_take
  have F_law_many : Fn P w K mg base 6 (He.ga K "_law_many") ["_law_pool_here", "_law_many_here"] (ct_law_many K) := ok_law_many T F_law_take
  have F_law_mixed : Fn P w K mg base 6 (He.ga K "_law_mixed") ["_law_pool_here", "_law_things"] (ct_law_mixed K) := ok_law_mixed T F_law_take
  have F_law_built : Fn P w K mg base 8 (He.ga K "_law_built") ["_law_parts"] (ct_law_built K) := ok_law_built T F_Net___init F_Net_post F_Net_lane
  have F_law_net : Fn P w K mg base 8 (He.ga K "_law_net") ["_law_pool_here", "_law_most", "_law_lanes"] (ct_law_net K) := ok_law_net T F_law_take F_law_names F_law_many F_law_mixed
  have F_law_ends : Fn P w K mg base 4 (He.ga K "_law_ends") ["_law_parts"] (ct_law_ends K) := ok_law_ends T
  have F_law_ways : Fn P w K mg base 4 (He.ga K "_law_ways") ["_law_parts", "_law_start"] (ct_law_ways K) := ok_law_ways T
  have F_shortest_way : Fn P w K mg base 4 (He.ga K "shortest_way") ["ends_by_lane", "first", "second"] (ct_shortest_way K) := ok_shortest_way T
  have F_reached_posts : Fn P w K mg base 4 (He.ga K "reached_posts") ["net", "start"] (ct_reached_posts K) := ok_reached_posts T
  have F_parts_of : Fn P w K mg base 6 (He.ga K "parts_of") ["net"] (ct_parts_of K) := ok_parts_of T F_first_missing F_reached_posts
  have F_part_with : Fn P w K mg base 8 (He.ga K "part_with") ["net", "wanted"] (ct_part_with K) := ok_part_with T F_first_missing F_parts_of
  have F_found_part : Fn P w K mg base 10 (He.ga K "found_part") ["net", "wanted"] (ct_found_part K) := ok_found_part T F_Net_start_of F_Net_end_of F_reached_posts F_part_with Z_NoRound
  have F_inner_ends : Fn P w K mg base 4 (He.ga K "inner_ends") ["net", "lanes"] (ct_inner_ends K) := ok_inner_ends T
  have F_closed_walk : Fn P w K mg base 6 (He.ga K "closed_walk") ["ends", "wanted"] (ct_closed_walk K) := ok_closed_walk T F_shortest_way
  have F_Asked___init : Fn P w K mg base 8 (He.ma K (He.ga K "Asked") "__init__") ["self", "net", "wanted"] (ct_Asked___init K) := ok_Asked___init T F_first_missing F_Net_lanes F_Net_copy Z_NoLane
  have F_Asked_net : Fn P w K mg base 6 (pga K (He.ga K "Asked") "net") ["self"] (ct_Asked_net K) := ok_Asked_net T F_Net___init
  have F_Asked_round : Fn P w K mg base 12 (He.ma K (He.ga K "Asked") "round") ["self"] (ct_Asked_round K) := ok_Asked_round T F_Round___init F_found_part F_inner_ends F_closed_walk
  have F_Asked___bool : Fn P w K mg base 10 (He.ma K (He.ga K "Asked") "__bool__") ["self"] (ct_Asked___bool K) := ok_Asked___bool T F_part_with
  have F_law_part : Fn P w K mg base 6 (He.ga K "_law_part") ["_law_parts", "_law_lane"] (ct_law_part K) := ok_law_part T F_law_ends F_law_ways
  have F_law_wanted : Fn P w K mg base 8 (He.ga K "_law_wanted") ["_law_pool_here", "_law_parts"] (ct_law_wanted K) := ok_law_wanted T F_law_take F_law_mixed F_law_part
  have F_law_in_part : Fn P w K mg base 8 (He.ga K "_law_in_part") ["_law_parts", "_law_wanted_here"] (ct_law_in_part K) := ok_law_in_part T F_law_part
  have F_law_is_round : Fn P w K mg base 6 (He.ga K "_law_is_round") ["_law_parts", "_law_lanes", "_law_wanted_here"] (ct_law_is_round K) := ok_law_is_round T F_law_ends
  exact ok_law T F_Round_lanes F_fits F_law_cell F_law_pool F_law_built F_law_net F_Asked___init F_Asked_net F_Asked_round F_Asked___bool F_law_wanted F_law_in_part F_law_is_round F
end
def names0 : List Str := ["_wall", "ShowError", "BadName", "NameTaken", "NoPost", "NoLane", "Clash", "EmptyWalk", "NothingWanted", "BadText", "BadNumber", "NoRound", "LETTERS", "DIGITS", "LONGEST", "is_name", "is_whole", "is_count", "first_missing", "are_strings", "are_names", "Net", "made_of_both", "is_within", "shortest_way", "reached_posts", "parts_of", "Machine", "made_machine", "read_tree"]
def names1 : List Str := ["crossed", "accepts", "ENDS", "sign_at", "read_pattern", "behind_row", "read_row", "read_item", "read_name", "read_names", "read_group", "expect", "Round", "in_order", "check_lanes", "begins_at", "is_turned", "fits", "joined", "opposite", "tree_names", "text_of", "atom_text", "Pattern", "word_pattern", "as_pattern", "machine_of", "moves_of", "reversed_moves", "finished_order"]
def names2 : List Str := ["strong_lots", "inner_lanes", "Asked", "inner_ends", "part_with", "found_part", "closed_walk", "avoidable_number", "is_avoidable", "shown_walk", "_law_cell", "_law_pool", "_law_take", "_law_names", "_law_many", "_law_mixed", "_law_net", "_law_built", "_law_ends", "_law_ways", "_law_part", "_law_wanted", "_law_in_part", "_law_is_round", "_law_shows"]
abbrev names : List Str := names0 ++ names1 ++ names2
abbrev R : PySem.W.OpenRow := PySem.W.OpenLaw.row PySem.Challenge.rw_alsoshown_k17_rounds_told
abbrev qv : Program := view R.prog [96]
def rts0 : List Str := ["is_name", "is_whole", "first_missing", "Net", "check_lanes", "Round", "fits", "_law_cell", "_law_pool", "_law_take", "_law_names", "_law_many", "_law_mixed", "_law_built", "_law_net", "_law_ends", "_law_ways", "shortest_way", "reached_posts", "parts_of", "part_with", "found_part", "inner_ends", "closed_walk", "Asked", "_law_part", "_law_wanted", "_law_in_part", "_law_is_round", "law"]
def rts1 : List Str := ["BadName", "NameTaken", "NoPost", "NoLane", "BadNumber", "NoRound", "LETTERS", "LONGEST", "DIGITS", "EmptyWalk", "NothingWanted"]
abbrev rts : List Str := rts0 ++ rts1
abbrev hk : PySem.W.Hook := hookZ 5 rts exs dfs
def ob (s : PySem.W.SharedT) : AlY := obsZG 5 rts exs dfs (HandSHeadRun.getT s)
theorem ob_eq (s : PySem.W.SharedT) : ob s = hk.obs s.abs := obsZG_eq (HandSHeadRun.getT_eq s)
theorem run0 (w : World) : HandSHeadRun.RunEq R qv hk ob 14000 names (w.withFollow "special-get-raises" false) := by
  intro os
  kernel_rfl
theorem run1 (w : World) : HandSHeadRun.RunEq R qv hk ob 14000 names (w.withFollow "special-get-raises" true) := by
  intro os
  kernel_rfl
theorem run (w : World) : HandSHeadRun.RunEq R qv hk ob 14000 names w := PySem.W.byRow2 "special-get-raises" (P := fun w => HandSHeadRun.RunEq R qv hk ob 14000 names w) run0 run1 w
end K17
open PySem PySem.W PySem.Calls PyProof.Rows
theorem PySem.Challenge.cw_alsoshown_k17_rounds_told_holds : PySem.Challenge.rw_alsoshown_k17_rounds_told.Holds := by
  w_on; o_law
  refine HandSHeadRun.head_any (r := K17.R) (q := K17.qv) (H := K17.hk) (ob := K17.ob) (M := 14000) (loose := K17.names) (d := HandSHeadRun.topDef K17.R.prog 96) (kwd := []) K17.ob_eq
    (by kernel_rfl) (fun s => by kernel_rfl) K17.run (by kernel_rfl) (by kernel_rfl) (by kernel_rfl) (by rfl) (by first | assumption | decide +kernel) (by decide +kernel) ⟨rfl, rfl, rfl, rfl, rfl, by decide +kernel⟩ ?hw ?hc
  case hw => w_witness2
  case hc =>
    refine DL.walk_D (l := PySem.Challenge.rw_alsoshown_k17_rounds_told) (n := 63) (k := 14) (x := "_law_script") rfl (by decide) (by kernel_rfl) ⟨rfl, by decide, by decide⟩ ?F
    intro w mg fa h Y G hmg0
    obtain ⟨K, KX, c⟩ := Y
    have hmg : mg ("law" : PySem.Str) = some (.ref fa) := by
      have e : (HandSHeadRun.topDef K17.R.prog 96).name = ("law" : PySem.Str) := by kernel_rfl
      rw [← e]
      exact hmg0
    have T := K17.tx_of KX G c
    obtain ⟨fd, F⟩ := T.d_law
    have e := hmg.symm.trans T.g_law.1
    cases e
    exact ⟨K, K17.ct_law K, fd, KX, fun z ns hs => ⟨z, rfl, ns, hs, rfl, rfl⟩, fun s v => L2.FunD.bindsA (ps := ["_law_script"]) F (fun _ _ _ _ _ _ us hl => match us, hl with | [_], _ => rfl) s [v] rfl, fun base => K17.all_ok T F⟩

