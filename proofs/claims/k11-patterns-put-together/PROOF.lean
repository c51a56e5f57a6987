import PyProof.Rows.All
import Wide.All
import OpenK.AllK
import Wide.FinOn
import HandS.Base
import HandS.Call
import HandS.List
import HandS.Comp
import HandS.Dict
import HandS.Iter
import HandS.Text
import HandS.Evl
import HandS.TupAny
import HandS.Wide
import HandS.Steps
import HandS.Exc
import HandS.Words
import HandS.WordsExc
import PyProof.NeData
import HandS.OwnEq
import HandS.Property
import HandS.IsInst
import HandS.ExcInit
import HandS.Defaults
import KE.KOpsOwn
import PyProof.InstNe
import HandS.Head0
import HandS.ExcField
import HandS.ExcOwn
import HandS.Codes
import HandS.Conv
import HandS.Style
import KE.KStateDown
import HandS.Head1
import HandS.Head2
import HandS.HeadEnd
import HandS.HeadHook1
import HandS.HeadHook2
import HandS.EndBits
import HandS.TupMul
import KE.DataCmp
import KE.DatumOrd
import HandS.DictComp
import HandS.RaiseMore
import KE.DataEq
import HandS.Finally
import KE.GoesNew
import KE.GoesMore
import OpenK.KMeth
import HandS.Small
import HandS.TupSets
import HandS.Star
import PySem.Challenge.RW_alsoshown_k11_patterns_put_together
set_option Elab.async false
set_option linter.all false
set_option maxRecDepth 100000
set_option maxHeartbeats 4000000
/-! DA: a logic of data over the readings: frozen data, views, cells (own work). -/
namespace DL
open PySem L2

/-- data -/
inductive D where
  | non | bl (b : Bool) | int (i : Int) | str (s : Str)
  | tup (xs : List D) | lst (xs : List D) | dic (kvs : List (Key × D)) | dit (kvs : List (List Key × D))
  | ins (C : Addr) (fs : List (Str × D)) | ty (n : String) | adr (a : Addr)

mutual
def Rp (K : PySem.W.Frag) (F : Hp) : D → V → Prop
  | .non, v => v = .non
  | .bl b, v => v = .bl b
  | .int i, v => v = .int i
  | .str s, v => v = .str s
  | .ty n, v => v = .ty n
  | .adr a, v => v = .ref a
  | .tup ds, v => ∃ a xs, v = .ref a ∧ SqT K F a xs ∧ RpL K F ds xs
  | .lst ds, v => ∃ a xs, v = .ref a ∧ Rd F a (.lst xs) ∧ RpL K F ds xs
  | .dic ds, v => ∃ a xs, v = .ref a ∧ Rd F a (.dK xs) ∧ RpK K F ds xs
  | .dit ds, v => ∃ a xs, v = .ref a ∧ Rd F a (.dT xs) ∧ RpT K F ds xs
  | .ins C ds, v => ∃ a dx xs, v = .ref a ∧ Rd F a (.ins C dx xs) ∧ RpF K F ds xs
def RpL (K : PySem.W.Frag) (F : Hp) : List D → List V → Prop
  | [], xs => xs = []
  | d :: ds, xs => ∃ x ys, xs = x :: ys ∧ Rp K F d x ∧ RpL K F ds ys
def RpK (K : PySem.W.Frag) (F : Hp) : List (Key × D) → List (Key × V) → Prop
  | [], xs => xs = []
  | (k, d) :: ds, xs => ∃ x ys, xs = (k, x) :: ys ∧ Rp K F d x ∧ RpK K F ds ys
def RpT (K : PySem.W.Frag) (F : Hp) : List (List Key × D) → List (List Key × V) → Prop
  | [], xs => xs = []
  | (k, d) :: ds, xs => ∃ x ys, xs = (k, x) :: ys ∧ Rp K F d x ∧ RpT K F ds ys
def RpF (K : PySem.W.Frag) (F : Hp) : List (Str × D) → List (Str × V) → Prop
  | [], xs => xs = []
  | (k, d) :: ds, xs => ∃ x ys, xs = (k, x) :: ys ∧ Rp K F d x ∧ RpF K F ds ys
end


def isfz : HO → Bool
  | .frz _ _ => true
  | _ => false
/-- nothing of F is locked -/
def Nz (F : Hp) : Prop := ∀ a u, F a = some u → isfz u = false
/-- what a loop may lock -/
def lk : HO → Bool
  | .dK _ => true
  | .dT _ => true
  | .lst _ => true
  | _ => false
/-- all that F says may be read in H -/
def Exz (F H : Hp) : Prop := ∀ a u, F a = some u → H a = some u ∨ (lk u = true ∧ ∃ o, H a = some (.frz o u))
theorem exz_rd {F H : Hp} (e : Exz F H) {a : Addr} {u : HO} (h : F a = some u) : Rd H a u := by
  rcases e a u h with q | ⟨_, o, q⟩
  · exact .inl q
  · exact .inr ⟨o, q⟩
/-- what is never locked stands as it is -/
theorem Exz.at {F H : Hp} (e : Exz F H) {a : Addr} {u : HO} (h : F a = some u) (k : lk u = false) : H a = some u := by
  rcases e a u h with q | ⟨k2, _⟩
  · exact q
  · rw [k] at k2
    cases k2
/-- all of B stands in H as it is -/
def Sub (B H : Hp) : Prop := ∀ a o, B a = some o → H a = some o
theorem Sub.refl (H : Hp) : Sub H H := fun _ _ h => h
theorem Sub.trans {F G H : Hp} (a : Sub F G) (b : Sub G H) : Sub F H := fun x u h => b x u (a x u h)
theorem Sub.exz {B H : Hp} (e : Sub B H) : Exz B H := fun a u h => .inl (e _ _ h)
theorem Sub.new {H : Hp} {p : Addr} {o : HO} (h : H p = none) : Sub H (upd H p o) := fun a u e => by
  rw [upd_ne (ne_of_none e h)]
  exact e
theorem Sub.free {F H : Hp} (e : Sub F H) {a : Addr} (h : H a = none) : F a = none := by
  cases q : F a with
  | none => rfl
  | some o =>
    rw [e a o q] at h
    cases h
theorem rd_ne {H : Hp} {a : Addr} {u : HO} (h : Rd H a u) : H a ≠ none := by
  rcases h with h | ⟨o, h⟩ <;> rw [h] <;> exact fun q => by cases q
theorem Exz.free {F H : Hp} (e : Exz F H) {a : Addr} (h : H a = none) : F a = none := by
  cases q : F a with
  | none => rfl
  | some o => exact absurd h (rd_ne (exz_rd e q))
theorem Exz.rd {F H : Hp} (e : Exz F H) (n : Nz F) {a : Addr} {u : HO} (h : Rd F a u) : Rd H a u := by
  rcases h with h | ⟨o, h⟩
  · exact exz_rd e h
  · have := n a _ h
    cases this
theorem Exz.sub {F G H : Hp} (a : Exz F G) (b : Sub G H) : Exz F H := fun x u h => by
  rcases a x u h with q | ⟨k, o, q⟩
  · exact .inl (b _ _ q)
  · exact .inr ⟨k, o, b _ _ q⟩
theorem rd_sub {G H : Hp} {a : Addr} {u : HO} (h : Rd G a u) (b : Sub G H) : Rd H a u := by
  rcases h with q | ⟨o, q⟩
  · exact .inl (b _ _ q)
  · exact .inr ⟨o, b _ _ q⟩
theorem sqL_mono {K : PySem.W.Frag} {F H : Hp} {a : Addr} {xs : List V} (e : Exz F H) (n : Nz F) (h : SqL K F a xs) : SqL K H a xs := by
  rcases h with h | h
  · exact .inl (e.rd n h)
  · exact .inr h
theorem sqT_mono {K : PySem.W.Frag} {F H : Hp} {a : Addr} {xs : List V} (e : Exz F H) (n : Nz F) (h : SqT K F a xs) : SqT K H a xs := by
  rcases h with h | h
  · exact .inl (e.rd n h)
  · exact .inr h
section
variable {K : PySem.W.Frag} {F G : Hp}
mutual
theorem Rp.mono (e : Exz F G) (n : Nz F) : ∀ (d : D) (v : V), Rp K F d v → Rp K G d v
  | .non, _, h => h
  | .bl _, _, h => h
  | .int _, _, h => h
  | .str _, _, h => h
  | .ty _, _, h => h
  | .adr _, _, h => h
  | .tup ds, v, h => by
    obtain ⟨a, xs, e1, h1, h2⟩ := h
    exact ⟨a, xs, e1, sqT_mono e n h1, RpL.mono e n ds xs h2⟩
  | .lst ds, v, h => by
    obtain ⟨a, xs, e1, h1, h2⟩ := h
    exact ⟨a, xs, e1, e.rd n h1, RpL.mono e n ds xs h2⟩
  | .dic ds, v, h => by
    obtain ⟨a, xs, e1, h1, h2⟩ := h
    exact ⟨a, xs, e1, e.rd n h1, RpK.mono e n ds xs h2⟩
  | .dit ds, v, h => by
    obtain ⟨a, xs, e1, h1, h2⟩ := h
    exact ⟨a, xs, e1, e.rd n h1, RpT.mono e n ds xs h2⟩
  | .ins C ds, v, h => by
    obtain ⟨a, dx, xs, e1, h1, h2⟩ := h
    exact ⟨a, dx, xs, e1, e.rd n h1, RpF.mono e n ds xs h2⟩
theorem RpL.mono (e : Exz F G) (n : Nz F) : ∀ (ds : List D) (xs : List V), RpL K F ds xs → RpL K G ds xs
  | [], _, h => h
  | d :: ds, xs, h => by
    obtain ⟨x, ys, e1, h1, h2⟩ := h
    exact ⟨x, ys, e1, Rp.mono e n d x h1, RpL.mono e n ds ys h2⟩
theorem RpK.mono (e : Exz F G) (n : Nz F) : ∀ (ds : List (Key × D)) (xs : List (Key × V)), RpK K F ds xs → RpK K G ds xs
  | [], _, h => h
  | (k, d) :: ds, xs, h => by
    obtain ⟨x, ys, e1, h1, h2⟩ := h
    exact ⟨x, ys, e1, Rp.mono e n d x h1, RpK.mono e n ds ys h2⟩
theorem RpT.mono (e : Exz F G) (n : Nz F) : ∀ (ds : List (List Key × D)) (xs : List (List Key × V)), RpT K F ds xs → RpT K G ds xs
  | [], _, h => h
  | (k, d) :: ds, xs, h => by
    obtain ⟨x, ys, e1, h1, h2⟩ := h
    exact ⟨x, ys, e1, Rp.mono e n d x h1, RpT.mono e n ds ys h2⟩
theorem RpF.mono (e : Exz F G) (n : Nz F) : ∀ (ds : List (Str × D)) (xs : List (Str × V)), RpF K F ds xs → RpF K G ds xs
  | [], _, h => h
  | (k, d) :: ds, xs, h => by
    obtain ⟨x, ys, e1, h1, h2⟩ := h
    exact ⟨x, ys, e1, Rp.mono e n d x h1, RpF.mono e n ds ys h2⟩
end
end

/-! ### worlds -/
/-- what may be read of B and F together -/
def uni (B F : Hp) : Hp := fun a => match F a with
  | some o => some o
  | none => match B a with
    | some (.frz _ u) => if lk u then some u else none
    | x => x
inductive W where
  | val (d : D) | vw (d : D)
def WOk (K : PySem.W.Frag) (B F : Hp) (v : V) : W → Prop
  | .val d => Rp K F d v
  | .vw d => Rp K (uni B F) d v
inductive Nd where
  | lst (ds : List D) | dic (ds : List (Key × D)) | dit (ds : List (List Key × D)) | ldic (o : Obj) (xs : List (Key × V)) (ds : List (Key × D)) | ins (C : Addr) (ds : List (Str × D)) | xd (ds : List (Str × D))
def NdOk (K : PySem.W.Frag) (F H : Hp) (a : Addr) : Nd → Prop
  | .lst ds => ∃ xs, H a = some (.lst xs) ∧ RpL K F ds xs
  | .dic ds => ∃ xs, H a = some (.dK xs) ∧ RpK K F ds xs
  | .dit ds => ∃ xs, H a = some (.dT xs) ∧ RpT K F ds xs
  | .ldic o xs ds => H a = some (.frz o (.dK xs)) ∧ RpK K F ds xs
  | .ins C ds => ∃ dx xs, H a = some (.ins C dx xs) ∧ RpF K F ds xs
  | .xd ds => ∃ xs, H a = some (.xd xs) ∧ RpF K F ds xs
abbrev Cells := List (Addr × Nd)
/-- F has grown, off B -/
structure Gr (B F F' : Hp) : Prop where
  sub : Sub F F'
  off : ∀ a, F a = none → B a ≠ none → F' a = none
theorem Gr.refl (B F : Hp) : Gr B F F := ⟨Sub.refl F, fun _ h _ => h⟩
theorem Gr.trans {B F G H : Hp} (a : Gr B F G) (b : Gr B G H) : Gr B F H := ⟨a.sub.trans b.sub, fun x h n => b.off x (a.off x h n) n⟩
/-- the state by data, over the frozen F: the slots, the cells, what is held on the way -/
structure EnF (K : PySem.W.Frag) (B F : Hp) (ro : List (Option W)) (ka : Cells) (ta : List (V × W)) (sg : L2.St) (H : Hp) : Prop where
  nz : Nz F
  fz : Exz F H
  fr : Sub B H
  nd : (ka.map (·.1)).Nodup
  ce : ∀ p ∈ ka, F p.1 = none ∧ B p.1 = none ∧ NdOk K F H p.1 p.2
  ln : sg.length = ro.length
  sl : ∀ (i : Nat) (w : W), ro[i]? = some (some w) → ∃ v, sg[i]? = some (some v) ∧ WOk K B F v w
  tm : ∀ p ∈ ta, WOk K B F p.1 p.2
def En (K : PySem.W.Frag) (B F0 : Hp) (ro : List (Option W)) (ka : Cells) (ta : List (V × W)) (sg : L2.St) (H : Hp) : Prop :=
  ∃ F, Gr B F0 F ∧ EnF K B F ro ka ta sg H

theorem uni_nz {B F : Hp} (n : Nz F) : Nz (uni B F) := fun a u h => by
  unfold uni at h
  split at h
  · rename_i o q
    exact n a u (q.trans h)
  · split at h
    · rename_i ob x q
      split at h
      · rename_i hx
        cases h
        cases u <;> first | rfl | cases hx
      · cases h
    · rename_i x q
      cases u with
      | frz ob z => exact absurd h (q ob z)
      | _ => rfl
theorem uni_exz {B F H : Hp} (fz : Exz F H) (fr : Sub B H) : Exz (uni B F) H := fun a u h => by
  unfold uni at h
  split at h
  · rename_i o q
    exact fz a u (q.trans h)
  · split at h
    · rename_i ob x q
      split at h
      · rename_i hx
        cases h
        exact .inr ⟨hx, ob, fr _ _ q⟩
      · cases h
    · exact .inl (fr _ _ h)
theorem uni_of {B F : Hp} {a : Addr} {u : HO} (h : F a = some u) : uni B F a = some u := by
  unfold uni
  rw [h]
theorem uni_sub {B F : Hp} : Sub F (uni B F) := fun _ _ h => uni_of h
theorem uni_gr {B F F' : Hp} (g : Gr B F F') : Sub (uni B F) (uni B F') := fun a u h => by
  unfold uni at h ⊢
  cases q : F a with
  | some o =>
    rw [q] at h
    rw [g.sub a o q]
    exact h
  | none =>
    rw [q] at h
    have hb : B a ≠ none := fun z => by
      rw [z] at h
      cases h
    rw [g.off a q hb]
    exact h
theorem wok_gr {K : PySem.W.Frag} {B F F' : Hp} (n : Nz F) (g : Gr B F F') {v : V} {w : W} (h : WOk K B F v w) : WOk K B F' v w := by
  cases w with
  | val d => exact Rp.mono g.sub.exz n d v h
  | vw d => exact Rp.mono (uni_gr g).exz (uni_nz n) d v h
/-- frozen data may be viewed -/
theorem wok_vw {K : PySem.W.Frag} {B F : Hp} (n : Nz F) {v : V} {d : D} (h : WOk K B F v (.val d)) : WOk K B F v (.vw d) := Rp.mono uni_sub.exz n d v h
theorem ndok_gr {K : PySem.W.Frag} {B F F' H : Hp} (n : Nz F) (g : Gr B F F') {a : Addr} {x : Nd} (h : NdOk K F H a x) : NdOk K F' H a x := by
  cases x with
  | lst ds => obtain ⟨xs, e, r⟩ := h; exact ⟨xs, e, RpL.mono g.sub.exz n _ _ r⟩
  | dic ds => obtain ⟨xs, e, r⟩ := h; exact ⟨xs, e, RpK.mono g.sub.exz n _ _ r⟩
  | dit ds => obtain ⟨xs, e, r⟩ := h; exact ⟨xs, e, RpT.mono g.sub.exz n _ _ r⟩
  | ldic o xs ds => obtain ⟨e, r⟩ := h; exact ⟨e, RpK.mono g.sub.exz n _ _ r⟩
  | ins C ds => obtain ⟨dx, xs, e, r⟩ := h; exact ⟨dx, xs, e, RpF.mono g.sub.exz n _ _ r⟩
  | xd ds => obtain ⟨xs, e, r⟩ := h; exact ⟨xs, e, RpF.mono g.sub.exz n _ _ r⟩
/-- the address where a node stands is taken -/
theorem ndok_ne {K : PySem.W.Frag} {F H : Hp} {a : Addr} {x : Nd} (h : NdOk K F H a x) : H a ≠ none := by
  cases x with
  | lst ds => obtain ⟨xs, e, r⟩ := h; rw [e]; exact fun q => by cases q
  | dic ds => obtain ⟨xs, e, r⟩ := h; rw [e]; exact fun q => by cases q
  | dit ds => obtain ⟨xs, e, r⟩ := h; rw [e]; exact fun q => by cases q
  | ldic o xs ds => obtain ⟨e, r⟩ := h; rw [e]; exact fun q => by cases q
  | ins C ds => obtain ⟨dx, xs, e, r⟩ := h; rw [e]; exact fun q => by cases q
  | xd ds => obtain ⟨xs, e, r⟩ := h; rw [e]; exact fun q => by cases q
theorem ndok_at {K : PySem.W.Frag} {F H H' : Hp} {a : Addr} {x : Nd} (e : H' a = H a) (h : NdOk K F H a x) : NdOk K F H' a x := by
  cases x with
  | lst ds => obtain ⟨xs, q, r⟩ := h; exact ⟨xs, e.trans q, r⟩
  | dic ds => obtain ⟨xs, q, r⟩ := h; exact ⟨xs, e.trans q, r⟩
  | dit ds => obtain ⟨xs, q, r⟩ := h; exact ⟨xs, e.trans q, r⟩
  | ldic o xs ds => obtain ⟨q, r⟩ := h; exact ⟨e.trans q, r⟩
  | ins C ds => obtain ⟨dx, xs, q, r⟩ := h; exact ⟨dx, xs, e.trans q, r⟩
  | xd ds => obtain ⟨xs, q, r⟩ := h; exact ⟨xs, e.trans q, r⟩
section
variable {K : PySem.W.Frag} {B F F' F0 : Hp} {ro : List (Option W)} {ka : Cells} {ta : List (V × W)} {sg : L2.St} {H : Hp}
/-- a new object is laid as frozen data -/
theorem EnF.lay (e : EnF K B F ro ka ta sg H) {p : Addr} {o : HO} (hp : H p = none) (hn : isfz o = false) : EnF K B (upd F p o) ro ka ta sg (upd H p o) ∧ Gr B F (upd F p o) := by
  have fp : F p = none := e.fz.free hp
  have bp : B p = none := e.fr.free hp
  have g : Gr B F (upd F p o) := ⟨Sub.new fp, fun a h1 h2 => by
    have ne : a ≠ p := fun q => h2 (q ▸ bp)
    rw [upd_ne ne]
    exact h1⟩
  refine ⟨⟨fun a u h => ?_, fun a u h => ?_, fun a u h => ?_, e.nd, fun q hq => ?_, e.ln, fun i w h => ?_, fun q hq => wok_gr e.nz g (e.tm q hq)⟩, g⟩
  · by_cases ha : a = p
    · subst ha; rw [upd_same] at h; cases h; exact hn
    · rw [upd_ne ha] at h; exact e.nz a u h
  · by_cases ha : a = p
    · subst ha; rw [upd_same] at h; cases h; exact .inl upd_same
    · rw [upd_ne ha] at h; exact e.fz.sub (Sub.new hp) a u h
  · have ha : a ≠ p := ne_of_none h bp
    rw [upd_ne ha]; exact e.fr a u h
  · obtain ⟨h1, h2, h3⟩ := e.ce q hq
    have nq : q.1 ≠ p := fun z => ndok_ne h3 (z ▸ hp)
    refine ⟨by rw [upd_ne nq]; exact h1, h2, ndok_at (upd_ne nq) (ndok_gr e.nz g h3)⟩
  · obtain ⟨v, h1, h2⟩ := e.sl i w h
    exact ⟨v, h1, wok_gr e.nz g h2⟩
/-- a new object is laid as a cell -/
theorem EnF.cell (e : EnF K B F ro ka ta sg H) {p : Addr} {o : HO} (hp : H p = none) {n : Nd} (hn : NdOk K F (upd H p o) p n) : EnF K B F ro (ka ++ [(p, n)]) ta sg (upd H p o) := by
  refine ⟨e.nz, e.fz.sub (Sub.new hp), e.fr.trans (Sub.new hp), ?_, fun q hq => ?_, e.ln, e.sl, e.tm⟩
  · rw [List.map_append, List.nodup_append]
    refine ⟨e.nd, by simp, fun a ha b hb => ?_⟩
    obtain ⟨q, hq, rfl⟩ := List.mem_map.mp ha
    simp at hb
    subst hb
    exact fun z => ndok_ne (e.ce q hq).2.2 (z ▸ hp)
  · rcases List.mem_append.mp hq with hq | hq
    · obtain ⟨h1, h2, h3⟩ := e.ce q hq
      have nq : q.1 ≠ p := fun z => ndok_ne h3 (z ▸ hp)
      exact ⟨h1, h2, ndok_at (upd_ne nq) h3⟩
    · simp at hq
      subst hq
      exact ⟨e.fz.free hp, e.fr.free hp, hn⟩
theorem EnF.push (e : EnF K B F ro ka ta sg H) {v : V} {w : W} (h : WOk K B F v w) : EnF K B F ro ka ((v, w) :: ta) sg H :=
  ⟨e.nz, e.fz, e.fr, e.nd, e.ce, e.ln, e.sl, fun p hp => (List.mem_cons.mp hp).elim (fun z => z ▸ h) (e.tm p)⟩
theorem EnF.held (e : EnF K B F ro ka ta sg H) {ta' : List (V × W)} (h : ∀ p ∈ ta', p ∈ ta) : EnF K B F ro ka ta' sg H :=
  ⟨e.nz, e.fz, e.fr, e.nd, e.ce, e.ln, e.sl, fun p hp => e.tm p (h p hp)⟩
/-- a slot is set -/
theorem EnF.set (e : EnF K B F ro ka ta sg H) {v : V} {w : W} (h : WOk K B F v w) (i : Nat) : EnF K B F (ro.set i (some w)) ka ta (sg.set i (some v)) H := by
  refine ⟨e.nz, e.fz, e.fr, e.nd, e.ce, by rw [List.length_set, List.length_set, e.ln], fun j w' hj => ?_, e.tm⟩
  by_cases hij : i = j
  · subst hij
    have hi : i < ro.length := by
      have := (List.getElem?_eq_some_iff.mp hj).1
      rwa [List.length_set] at this
    rw [List.getElem?_set_self hi] at hj
    cases hj
    exact ⟨v, by rw [List.getElem?_set_self (by rw [e.ln]; exact hi)], h⟩
  · rw [List.getElem?_set_ne hij] at hj ⊢
    exact e.sl j w' hj
/-- slots are forgotten -/
theorem EnF.forget (e : EnF K B F ro ka ta sg H) {ro' : List (Option W)} (hl : ro'.length = ro.length) (h : ∀ (i : Nat) w, ro'[i]? = some (some w) → ro[i]? = some (some w)) : EnF K B F ro' ka ta sg H :=
  ⟨e.nz, e.fz, e.fr, e.nd, e.ce, e.ln.trans hl.symm, fun i w q => e.sl i w (h i w q), e.tm⟩
/-- another frame: its slots -/
theorem EnF.frame (e : EnF K B F ro ka ta sg H) {ro' : List (Option W)} {sg' : L2.St} (hl : sg'.length = ro'.length) (h : ∀ (i : Nat) w, ro'[i]? = some (some w) → ∃ v, sg'[i]? = some (some v) ∧ WOk K B F v w) : EnF K B F ro' ka ta sg' H :=
  ⟨e.nz, e.fz, e.fr, e.nd, e.ce, hl, h, e.tm⟩
/-- cells in another order, some forgotten -/
theorem EnF.cells (e : EnF K B F ro ka ta sg H) {ka' : Cells} (hs : ka'.Sublist ka) : EnF K B F ro ka' ta sg H :=
  ⟨e.nz, e.fz, e.fr, (hs.map _).nodup e.nd, fun p hp => e.ce p (hs.subset hp), e.ln, e.sl, e.tm⟩
theorem EnF.perm (e : EnF K B F ro ka ta sg H) {ka' : Cells} (hs : ka'.Perm ka) : EnF K B F ro ka' ta sg H :=
  ⟨e.nz, e.fz, e.fr, (hs.map _).nodup_iff.mpr e.nd, fun p hp => e.ce p (hs.subset hp), e.ln, e.sl, e.tm⟩
/-- a cell is written -/
theorem EnF.write (e : EnF K B F ro ka ta sg H) {j : Nat} {p : Addr} {n n' : Nd} {o : HO} (hj : ka[j]? = some (p, n)) (hn : NdOk K F (upd H p o) p n') : EnF K B F ro (ka.set j (p, n')) ta sg (upd H p o) := by
  have hjl := (List.getElem?_eq_some_iff.mp hj).1
  have hm : (p, n) ∈ ka := List.mem_of_getElem? hj
  obtain ⟨fp, bp, _⟩ := e.ce _ hm
  have em : (ka.set j (p, n')).map (·.1) = ka.map (·.1) := by
    apply List.ext_getElem?
    intro i
    rw [List.getElem?_map, List.getElem?_map]
    by_cases hij : j = i
    · subst hij
      rw [List.getElem?_set_self hjl, hj]
      rfl
    · rw [List.getElem?_set_ne hij]
  refine ⟨e.nz, fun a u h => ?_, fun a u h => ?_, by rw [em]; exact e.nd, fun q hq => ?_, e.ln, e.sl, e.tm⟩
  · have ha : a ≠ p := ne_of_none h fp
    rcases e.fz a u h with q | ⟨k, ob, q⟩
    · exact .inl (by rw [upd_ne ha]; exact q)
    · exact .inr ⟨k, ob, by rw [upd_ne ha]; exact q⟩
  · have ha : a ≠ p := ne_of_none h bp
    rw [upd_ne ha]
    exact e.fr a u h
  · obtain ⟨i, hi⟩ := List.getElem?_of_mem hq
    by_cases hij : j = i
    · subst hij
      rw [List.getElem?_set_self hjl] at hi
      cases hi
      exact ⟨fp, bp, hn⟩
    · rw [List.getElem?_set_ne hij] at hi
      obtain ⟨h1, h2, h3⟩ := e.ce q (List.mem_of_getElem? hi)
      have nq : q.1 ≠ p := fun z => by
        have h4 : (ka.map (·.1))[i]? = some p := by rw [List.getElem?_map, hi]; simp [z]
        have h5 : (ka.map (·.1))[j]? = some p := by rw [List.getElem?_map, hj]; rfl
        obtain ⟨l1, e1⟩ := List.getElem?_eq_some_iff.mp h4
        obtain ⟨l2, e2⟩ := List.getElem?_eq_some_iff.mp h5
        exact hij ((List.getElem_inj e.nd).mp (e2.trans e1.symm))
      exact ⟨h1, h2, ndok_at (upd_ne nq) h3⟩
end
end DL

/-! DB: what expressions evaluate to, by data (own work). -/
namespace DL
open PySem L2

/-! ### judgements -/
section
variable (K : PySem.W.Frag)
abbrev Ro := List (Option W)
def EvD (te : TE) (ro : Ro) (ka : Cells) (w : W) (ka' : Cells) : Prop := ∀ B F0 ta sg H (Q : VK), En K B F0 ro ka ta sg H → (∀ v H', En K B F0 ro ka' ((v, w) :: ta) sg H' → Q v H') → te sg H Q
/-- a new cell -/
def EvN (te : TE) (ro : Ro) (ka : Cells) (n : Nd) (ka' : Cells) : Prop := ∀ B F0 ta sg H (Q : VK), En K B F0 ro ka ta sg H → (∀ a H', En K B F0 ro (ka' ++ [(a, n)]) ta sg H' → Q (.ref a) H') → te sg H Q
def EvT (tt : TT) (ro : Ro) (ka : Cells) (b : Bool) (ka' : Cells) : Prop := ∀ B F0 ta sg H (Q : Bool → Hp → Prop), En K B F0 ro ka ta sg H → (∀ H', En K B F0 ro ka' ta sg H' → Q b H') → tt sg H Q
def EvA (tr : TA) (ro : Ro) (ka : Cells) (ws : List W) (ka' : Cells) : Prop := ∀ B F0 ta sg H (Q : List V → Hp → Prop), En K B F0 ro ka ta sg H → (∀ vs H', vs.length = ws.length → En K B F0 ro ka' (vs.zip ws ++ ta) sg H' → Q vs H') → tr sg H Q
/-- a two-place operation, a one-place one -/
def RvD (r : R2) (ka : Cells) (x y z : W) : Prop := ∀ B F0 ro ta sg H u v (Q : VK), En K B F0 ro ka ta sg H → (u, x) ∈ ta → (v, y) ∈ ta → (∀ t H', En K B F0 ro ka ((t, z) :: ta) sg H' → Q t H') → r u v H Q
def RvN (r : R2) (ka : Cells) (x y : W) (n : Nd) : Prop := ∀ B F0 ro ta sg H u v (Q : VK), En K B F0 ro ka ta sg H → (u, x) ∈ ta → (v, y) ∈ ta → (∀ a H', En K B F0 ro (ka ++ [(a, n)]) ta sg H' → Q (.ref a) H') → r u v H Q
def RuD (r : V → Hp → VK → Prop) (ka : Cells) (x z : W) : Prop := ∀ B F0 ro ta sg H u (Q : VK), En K B F0 ro ka ta sg H → (u, x) ∈ ta → (∀ t H', En K B F0 ro ka ((t, z) :: ta) sg H' → Q t H') → r u H Q
/-- a call by values -/
def RcD (r : List V → Hp → VK → Prop) (ka : Cells) (xs : List W) (z : W) : Prop := ∀ B F0 ro ta sg H us (Q : VK), En K B F0 ro ka ta sg H → us.length = xs.length → (∀ p ∈ us.zip xs, p ∈ ta) → (∀ t H', En K B F0 ro ka ((t, z) :: ta) sg H' → Q t H') → r us H Q
def RcN (r : List V → Hp → VK → Prop) (ka : Cells) (xs : List W) (n : Nd) : Prop := ∀ B F0 ro ta sg H us (Q : VK), En K B F0 ro ka ta sg H → us.length = xs.length → (∀ p ∈ us.zip xs, p ∈ ta) → (∀ a H', En K B F0 ro (ka ++ [(a, n)]) ta sg H' → Q (.ref a) H') → r us H Q
/-- a part of a slice -/
def EvO (to : TO) (ro : Ro) (ka : Cells) (o : Option Int) (ka' : Cells) : Prop := ∀ B F0 ta sg H (Q : Option Int → Hp → Prop), En K B F0 ro ka ta sg H → (∀ H', En K B F0 ro ka' ta sg H' → Q o H') → to sg H Q
end

section
variable {K : PySem.W.Frag} {B F0 : Hp} {ro : Ro} {ka k1 k2 k3 : Cells} {ta : List (V × W)} {sg : L2.St} {H : Hp} {te tf tg : TE} {tt tu : TT} {tr : TA} {w x y z : W} {n : Nd} {r : R2}
theorem En.held (e : En K B F0 ro ka ta sg H) {ta' : List (V × W)} (h : ∀ p ∈ ta', p ∈ ta) : En K B F0 ro ka ta' sg H :=
  let ⟨F, g, q⟩ := e
  ⟨F, g, q.held h⟩
theorem En.pop {p : V × W} (e : En K B F0 ro ka (p :: ta) sg H) : En K B F0 ro ka ta sg H := e.held fun _ h => List.mem_cons_of_mem _ h
/-- what data says of its value -/
theorem En.push_imm (e : En K B F0 ro ka ta sg H) {v : V} {w : W} (h : ∀ F, WOk K B F v w) : En K B F0 ro ka ((v, w) :: ta) sg H :=
  let ⟨F, g, q⟩ := e
  ⟨F, g, q.push (h F)⟩
theorem En.tm_int (e : En K B F0 ro ka ta sg H) {v : V} {i : Int} (h : (v, W.val (.int i)) ∈ ta) : v = .int i := let ⟨_, _, q⟩ := e; q.tm _ h
theorem En.tm_str (e : En K B F0 ro ka ta sg H) {v : V} {i : Str} (h : (v, W.val (.str i)) ∈ ta) : v = .str i := let ⟨_, _, q⟩ := e; q.tm _ h
theorem En.tm_bl (e : En K B F0 ro ka ta sg H) {v : V} {i : Bool} (h : (v, W.val (.bl i)) ∈ ta) : v = .bl i := let ⟨_, _, q⟩ := e; q.tm _ h
theorem En.tm_non (e : En K B F0 ro ka ta sg H) {v : V} (h : (v, W.val .non) ∈ ta) : v = .non := let ⟨_, _, q⟩ := e; q.tm _ h
theorem En.tm_adr (e : En K B F0 ro ka ta sg H) {v : V} {a : Addr} (h : (v, W.val (.adr a)) ∈ ta) : v = .ref a := let ⟨_, _, q⟩ := e; q.tm _ h
theorem En.tm_ty (e : En K B F0 ro ka ta sg H) {v : V} {i : String} (h : (v, W.val (.ty i)) ∈ ta) : v = .ty i := let ⟨_, _, q⟩ := e; q.tm _ h

/-- data that is the value itself -/
def imm : D → Bool
  | .non => true | .bl _ => true | .int _ => true | .str _ => true | .ty _ => true | .adr _ => true
  | _ => false
theorem imm_any {F G : Hp} : ∀ {d : D} {v : V}, imm d = true → Rp K F d v → Rp K G d v
  | .non, _, _, h => h
  | .bl _, _, _, h => h
  | .int _, _, _, h => h
  | .str _, _, _, h => h
  | .ty _, _, _, h => h
  | .adr _, _, _, h => h
/-- a part of something viewed, of something frozen -/
def part (b : Bool) (d : D) : W := if b && !imm d then .vw d else .val d
theorem wok_part {B F : Hp} {v : V} {d : D} (b : Bool) (h : Rp K (if b then uni B F else F) d v) : WOk K B F v (part b d) := by
  unfold part
  cases b with
  | false => exact h
  | true =>
    cases q : imm d with
    | true => exact imm_any q h
    | false => exact h
theorem part_f (d : D) : part false d = .val d := rfl

/-! ### names, constants -/
theorem ev_var {i : Nat} (h : ro[i]? = some (some w)) : EvD K (tVar i) ro ka w ka := fun B F0 ta sg H Q e q => by
  obtain ⟨F, g, e⟩ := e
  obtain ⟨v, h1, h2⟩ := e.sl i w h
  exact ⟨v, h1, q v H ⟨F, g, e.push h2⟩⟩
theorem ev_int {i : Int} : EvD K (tC (.int i)) ro ka (.val (.int i)) ka := fun B F0 ta sg H Q e q => q _ _ (e.push_imm fun _ => rfl)
theorem ev_str {i : Str} : EvD K (tC (.str i)) ro ka (.val (.str i)) ka := fun B F0 ta sg H Q e q => q _ _ (e.push_imm fun _ => rfl)
theorem ev_bl {i : Bool} : EvD K (tC (.bl i)) ro ka (.val (.bl i)) ka := fun B F0 ta sg H Q e q => q _ _ (e.push_imm fun _ => rfl)
theorem ev_non : EvD K (tC .non) ro ka (.val .non) ka := fun B F0 ta sg H Q e q => q _ _ (e.push_imm fun _ => rfl)
theorem ev_ref {a : Addr} : EvD K (tC (.ref a)) ro ka (.val (.adr a)) ka := fun B F0 ta sg H Q e q => q _ _ (e.push_imm fun _ => rfl)
theorem ev_ty {a : String} : EvD K (tC (.ty a)) ro ka (.val (.ty a)) ka := fun B F0 ta sg H Q e q => q _ _ (e.push_imm fun _ => rfl)

/-! ### operations -/
theorem ev_op (ha : EvD K te ro ka x k1) (hb : EvD K tf ro k1 y k2) (hr : RvD K r k2 x y z) : EvD K (tOp r te tf) ro ka z k2 := fun B F0 ta sg H Q e q =>
  ha B F0 ta sg H _ e fun u H1 e1 => hb B F0 _ sg H1 _ e1 fun v H2 e2 => hr B F0 ro _ sg H2 u v Q e2 (List.mem_cons_of_mem _ List.mem_cons_self) List.mem_cons_self fun t H3 e3 =>
    q t H3 (e3.held fun p hp => by
      rcases List.mem_cons.mp hp with rfl | hp
      · exact List.mem_cons_self
      · exact List.mem_cons_of_mem _ (List.mem_cons_of_mem _ (List.mem_cons_of_mem _ hp)))
theorem evn_op (ha : EvD K te ro ka x k1) (hb : EvD K tf ro k1 y k2) (hr : RvN K r k2 x y n) : EvN K (tOp r te tf) ro ka n k2 := fun B F0 ta sg H Q e q =>
  ha B F0 ta sg H _ e fun u H1 e1 => hb B F0 _ sg H1 _ e1 fun v H2 e2 => hr B F0 ro _ sg H2 u v Q e2 (List.mem_cons_of_mem _ List.mem_cons_self) List.mem_cons_self fun t H3 e3 =>
    q t H3 (e3.held fun p hp => List.mem_cons_of_mem _ (List.mem_cons_of_mem _ hp))
theorem ev_un {r : V → Hp → VK → Prop} (ha : EvD K te ro ka x k1) (hr : RuD K r k1 x z) : EvD K (tUn r te) ro ka z k1 := fun B F0 ta sg H Q e q =>
  ha B F0 ta sg H _ e fun u H1 e1 => hr B F0 ro _ sg H1 u Q e1 List.mem_cons_self fun t H3 e3 => q t H3 (e3.held fun p hp => by
      rcases List.mem_cons.mp hp with rfl | hp
      · exact List.mem_cons_self
      · exact List.mem_cons_of_mem _ (List.mem_cons_of_mem _ hp))
theorem ea_nil : EvA K tNil ro ka [] ka := fun B F0 ta sg H Q e q => q [] H rfl e
theorem ea_cons (ha : EvD K te ro ka x k1) {ws : List W} (hr : EvA K tr ro k1 ws k2) : EvA K (tCons te tr) ro ka (x :: ws) k2 := fun B F0 ta sg H Q e q =>
  ha B F0 ta sg H _ e fun u H1 e1 => hr B F0 _ sg H1 _ e1 fun vs H2 hl e2 => q (u :: vs) H2 (by rw [List.length_cons, List.length_cons, hl]) (e2.held fun p hp => by
    have hp' : p ∈ (u, x) :: (vs.zip ws ++ ta) := hp
    rcases List.mem_cons.mp hp' with rfl | h
    · exact List.mem_append_right _ List.mem_cons_self
    · rcases List.mem_append.mp h with h | h
      · exact List.mem_append_left _ h
      · exact List.mem_append_right _ (List.mem_cons_of_mem _ h))
theorem ev_cb {r : List V → Hp → VK → Prop} {ws : List W} (ha : EvA K tr ro ka ws k1) (hr : RcD K r k1 ws z) : EvD K (tCB r tr) ro ka z k1 := fun B F0 ta sg H Q e q =>
  ha B F0 ta sg H _ e fun us H1 hl e1 => hr B F0 ro _ sg H1 us Q e1 hl (fun p hp => List.mem_append_left _ hp) fun t H2 e2 => q t H2 (e2.held fun p hp => by
    rcases List.mem_cons.mp hp with rfl | hp
    · exact List.mem_cons_self
    · exact List.mem_cons_of_mem _ (List.mem_append_right _ hp))
theorem evn_cb {r : List V → Hp → VK → Prop} {ws : List W} (ha : EvA K tr ro ka ws k1) (hr : RcN K r k1 ws n) : EvN K (tCB r tr) ro ka n k1 := fun B F0 ta sg H Q e q =>
  ha B F0 ta sg H _ e fun us H1 hl e1 => hr B F0 ro _ sg H1 us Q e1 hl (fun p hp => List.mem_append_left _ hp) fun t H2 e2 => q t H2 (e2.held fun p hp => List.mem_append_right _ hp)
/-- another of the ways of an operation -/
theorem rvd_l {r' : R2} (h : RvD K r ka x y z) : RvD K (fun x y H Q => r x y H Q ∨ r' x y H Q) ka x y z := fun B F0 ro ta sg H u v Q e h1 h2 q => .inl (h B F0 ro ta sg H u v Q e h1 h2 q)
theorem rvd_r {r' : R2} (h : RvD K r' ka x y z) : RvD K (fun x y H Q => r x y H Q ∨ r' x y H Q) ka x y z := fun B F0 ro ta sg H u v Q e h1 h2 q => .inr (h B F0 ro ta sg H u v Q e h1 h2 q)
theorem rvn_l {r' : R2} (h : RvN K r ka x y n) : RvN K (fun x y H Q => r x y H Q ∨ r' x y H Q) ka x y n := fun B F0 ro ta sg H u v Q e h1 h2 q => .inl (h B F0 ro ta sg H u v Q e h1 h2 q)
theorem rvn_r {r' : R2} (h : RvN K r' ka x y n) : RvN K (fun x y H Q => r x y H Q ∨ r' x y H Q) ka x y n := fun B F0 ro ta sg H u v Q e h1 h2 q => .inr (h B F0 ro ta sg H u v Q e h1 h2 q)
theorem rcd_l {r r' : List V → Hp → VK → Prop} {xs : List W} (h : RcD K r ka xs z) : RcD K (fun x H Q => r x H Q ∨ r' x H Q) ka xs z := fun B F0 ro ta sg H u Q e h1 h2 q => .inl (h B F0 ro ta sg H u Q e h1 h2 q)
theorem rcd_r {r r' : List V → Hp → VK → Prop} {xs : List W} (h : RcD K r' ka xs z) : RcD K (fun x H Q => r x H Q ∨ r' x H Q) ka xs z := fun B F0 ro ta sg H u Q e h1 h2 q => .inr (h B F0 ro ta sg H u Q e h1 h2 q)
theorem rcn_l {r r' : List V → Hp → VK → Prop} {xs : List W} (h : RcN K r ka xs n) : RcN K (fun x H Q => r x H Q ∨ r' x H Q) ka xs n := fun B F0 ro ta sg H u Q e h1 h2 q => .inl (h B F0 ro ta sg H u Q e h1 h2 q)
theorem rcn_r {r r' : List V → Hp → VK → Prop} {xs : List W} (h : RcN K r' ka xs n) : RcN K (fun x H Q => r x H Q ∨ r' x H Q) ka xs n := fun B F0 ro ta sg H u Q e h1 h2 q => .inr (h B F0 ro ta sg H u Q e h1 h2 q)

/-! ### a new cell, frozen -/
theorem En.freeze_l (e : En K B F0 ro (ka ++ [(a, .lst ds)]) ta sg H) : En K B F0 ro ka ((.ref a, .val (.lst ds)) :: ta) sg H := by
  obtain ⟨F, g, e⟩ := e
  obtain ⟨fa, ba, xs, ha, rl⟩ := e.ce (a, .lst ds) (by simp)
  have gg : Gr B F (upd F a (.lst xs)) := ⟨Sub.new fa, fun b h1 h2 => by
    have ne : b ≠ a := fun q => h2 (q ▸ ba)
    rw [upd_ne ne]
    exact h1⟩
  have nd2 := e.nd
  rw [List.map_append, List.nodup_append] at nd2
  refine ⟨upd F a (.lst xs), g.trans gg, ⟨fun b u h => ?_, fun b u h => ?_, e.fr, nd2.1, fun q hq => ?_, e.ln, fun i w h => ?_, fun q hq => ?_⟩⟩
  · by_cases hb : b = a
    · subst hb; rw [upd_same] at h; cases h; rfl
    · rw [upd_ne hb] at h; exact e.nz b u h
  · by_cases hb : b = a
    · subst hb; rw [upd_same] at h; cases h; exact .inl ha
    · rw [upd_ne hb] at h; exact e.fz b u h
  · obtain ⟨h1, h2, h3⟩ := e.ce q (List.mem_append_left _ hq)
    have nq : q.1 ≠ a := fun z => nd2.2.2 q.1 (List.mem_map.mpr ⟨q, hq, rfl⟩) a (by simp) z
    exact ⟨by rw [upd_ne nq]; exact h1, h2, ndok_gr e.nz gg h3⟩
  · obtain ⟨v, h1, h2⟩ := e.sl i w h
    exact ⟨v, h1, wok_gr e.nz gg h2⟩
  · rcases List.mem_cons.mp hq with rfl | hq
    · exact ⟨a, xs, rfl, .inl upd_same, RpL.mono gg.sub.exz e.nz _ _ rl⟩
    · exact wok_gr e.nz gg (e.tm q hq)
theorem En.freeze_k (e : En K B F0 ro (ka ++ [(a, .dic ds)]) ta sg H) : En K B F0 ro ka ((.ref a, .val (.dic ds)) :: ta) sg H := by
  obtain ⟨F, g, e⟩ := e
  obtain ⟨fa, ba, xs, ha, rl⟩ := e.ce (a, .dic ds) (by simp)
  have gg : Gr B F (upd F a (.dK xs)) := ⟨Sub.new fa, fun b h1 h2 => by
    have ne : b ≠ a := fun q => h2 (q ▸ ba)
    rw [upd_ne ne]
    exact h1⟩
  have nd2 := e.nd
  rw [List.map_append, List.nodup_append] at nd2
  refine ⟨upd F a (.dK xs), g.trans gg, ⟨fun b u h => ?_, fun b u h => ?_, e.fr, nd2.1, fun q hq => ?_, e.ln, fun i w h => ?_, fun q hq => ?_⟩⟩
  · by_cases hb : b = a
    · subst hb; rw [upd_same] at h; cases h; rfl
    · rw [upd_ne hb] at h; exact e.nz b u h
  · by_cases hb : b = a
    · subst hb; rw [upd_same] at h; cases h; exact .inl ha
    · rw [upd_ne hb] at h; exact e.fz b u h
  · obtain ⟨h1, h2, h3⟩ := e.ce q (List.mem_append_left _ hq)
    have nq : q.1 ≠ a := fun z => nd2.2.2 q.1 (List.mem_map.mpr ⟨q, hq, rfl⟩) a (by simp) z
    exact ⟨by rw [upd_ne nq]; exact h1, h2, ndok_gr e.nz gg h3⟩
  · obtain ⟨v, h1, h2⟩ := e.sl i w h
    exact ⟨v, h1, wok_gr e.nz gg h2⟩
  · rcases List.mem_cons.mp hq with rfl | hq
    · exact ⟨a, xs, rfl, .inl upd_same, RpK.mono gg.sub.exz e.nz _ _ rl⟩
    · exact wok_gr e.nz gg (e.tm q hq)
theorem EvN.lst {ds : List D} (h : EvN K te ro ka (.lst ds) k1) : EvD K te ro ka (.val (.lst ds)) k1 := fun B F0 ta sg H Q e q => h B F0 ta sg H Q e fun a H1 e1 => q _ _ e1.freeze_l
theorem EvN.dic {ds : List (Key × D)} (h : EvN K te ro ka (.dic ds) k1) : EvD K te ro ka (.val (.dic ds)) k1 := fun B F0 ta sg H Q e q => h B F0 ta sg H Q e fun a H1 e1 => q _ _ e1.freeze_k

/-! ### tests -/
theorem et_test {b : Bool} (h : EvD K te ro ka (.val (.bl b)) k1) : EvT K (tTest te) ro ka b k1 := fun B F0 ta sg H Q e q => h B F0 ta sg H _ e fun v H1 e1 => ⟨b, e1.tm_bl List.mem_cons_self, q H1 e1.pop⟩
theorem et_B {b : Bool} (h : EvD K te ro ka (.val (.bl b)) k1) : EvT K (tB te) ro ka b k1 := fun B F0 ta sg H Q e q => h B F0 ta sg H _ e fun v H1 e1 => ⟨b, e1.tm_bl List.mem_cons_self, q H1 e1.pop⟩
theorem et_not {a : Bool} (h : EvT K tt ro ka a k1) : EvT K (tNot tt) ro ka (!a) k1 := fun B F0 ta sg H Q e q => h B F0 ta sg H _ e fun H1 e1 => q H1 e1
/-- and, or: k2 is reached in any case -/
theorem et_and {a b : Bool} (h1 : EvT K tt ro ka a k1) (h2 : a = true → EvT K tu ro k1 b k1) : EvT K (tAnd tt tu) ro ka (a && b) k1 := fun B F0 ta sg H Q e q => h1 B F0 ta sg H _ e fun H1 e1 => by
  cases a with
  | true => exact h2 rfl B F0 ta sg H1 Q e1 q
  | false => exact q H1 e1
theorem et_or {a b : Bool} (h1 : EvT K tt ro ka a k1) (h2 : a = false → EvT K tu ro k1 b k1) : EvT K (tOr tt tu) ro ka (a || b) k1 := fun B F0 ta sg H Q e q => h1 B F0 ta sg H _ e fun H1 e1 => by
  cases a with
  | true => exact q H1 e1
  | false => exact h2 rfl B F0 ta sg H1 Q e1 q
theorem et_and1 {b : Bool} (h1 : EvT K tt ro ka true k1) (h2 : EvT K tu ro k1 b k2) : EvT K (tAnd tt tu) ro ka b k2 := fun B F0 ta sg H Q e q => h1 B F0 ta sg H _ e fun H1 e1 => h2 B F0 ta sg H1 Q e1 q
theorem et_and0 (h1 : EvT K tt ro ka false k1) : EvT K (tAnd tt tu) ro ka false k1 := fun B F0 ta sg H Q e q => h1 B F0 ta sg H _ e fun H1 e1 => q H1 e1
theorem et_or0 {b : Bool} (h1 : EvT K tt ro ka false k1) (h2 : EvT K tu ro k1 b k2) : EvT K (tOr tt tu) ro ka b k2 := fun B F0 ta sg H Q e q => h1 B F0 ta sg H _ e fun H1 e1 => h2 B F0 ta sg H1 Q e1 q
theorem et_or1 (h1 : EvT K tt ro ka true k1) : EvT K (tOr tt tu) ro ka true k1 := fun B F0 ta sg H Q e q => h1 B F0 ta sg H _ e fun H1 e1 => q H1 e1
theorem EvT.to {a b : Bool} (h : EvT K tt ro ka a k1) (e : a = b) : EvT K tt ro ka b k1 := e ▸ h
theorem EvD.to {w' : W} (h : EvD K te ro ka w k1) (e : w = w') : EvD K te ro ka w' k1 := e ▸ h
theorem EvD.imm {d : D} (h : EvD K te ro ka (.vw d) k1) (i : imm d = true) : EvD K te ro ka (.val d) k1 := fun B F0 ta sg H Q e q => h B F0 ta sg H _ e fun v H1 e1 => q v H1 (by
  obtain ⟨F, g, e1⟩ := e1
  have h1 := e1.tm _ List.mem_cons_self
  exact ⟨F, g, (e1.held (ta' := ta) fun p hp => List.mem_cons_of_mem _ hp).push (imm_any i h1)⟩)
theorem EvD.vw {d : D} (h : EvD K te ro ka (.val d) k1) : EvD K te ro ka (.vw d) k1 := fun B F0 ta sg H Q e q => h B F0 ta sg H _ e fun v H1 e1 => q v H1 (by
  obtain ⟨F, g, e1⟩ := e1
  exact ⟨F, g, (e1.held (ta' := ta) fun p hp => List.mem_cons_of_mem _ hp).push (wok_vw e1.nz (e1.tm _ List.mem_cons_self))⟩)
theorem ev_andV {a b : Bool} (h1 : EvD K te ro ka (.val (.bl a)) k1) (h2 : a = true → EvD K tf ro k1 (.val (.bl b)) k1) : EvD K (tAndV te tf) ro ka (.val (.bl (a && b))) k1 := fun B F0 ta sg H Q e q => h1 B F0 ta sg H _ e fun v H1 e1 => ⟨a, e1.tm_bl List.mem_cons_self, by
  have hv := e1.tm_bl List.mem_cons_self
  cases a with
  | true => exact h2 rfl B F0 ta sg H1 Q e1.pop q
  | false => subst hv; exact q _ H1 e1⟩
theorem ev_orV {a b : Bool} (h1 : EvD K te ro ka (.val (.bl a)) k1) (h2 : a = false → EvD K tf ro k1 (.val (.bl b)) k1) : EvD K (tOrV te tf) ro ka (.val (.bl (a || b))) k1 := fun B F0 ta sg H Q e q => h1 B F0 ta sg H _ e fun v H1 e1 => ⟨a, e1.tm_bl List.mem_cons_self, by
  have hv := e1.tm_bl List.mem_cons_self
  cases a with
  | true => subst hv; exact q _ H1 e1
  | false => exact h2 rfl B F0 ta sg H1 Q e1.pop q⟩
theorem ev_andV1 (h1 : EvD K te ro ka (.val (.bl true)) k1) (h2 : EvD K tf ro k1 w k2) : EvD K (tAndV te tf) ro ka w k2 := fun B F0 ta sg H Q e q => h1 B F0 ta sg H _ e fun v H1 e1 => ⟨true, e1.tm_bl List.mem_cons_self, h2 B F0 ta sg H1 Q e1.pop q⟩
theorem ev_andV0 (h1 : EvD K te ro ka (.val (.bl false)) k1) : EvD K (tAndV te tf) ro ka (.val (.bl false)) k1 := fun B F0 ta sg H Q e q => h1 B F0 ta sg H _ e fun v H1 e1 => ⟨false, e1.tm_bl List.mem_cons_self, by
  have hv := e1.tm_bl List.mem_cons_self
  subst hv
  exact q _ H1 e1⟩
theorem ev_orV0 (h1 : EvD K te ro ka (.val (.bl false)) k1) (h2 : EvD K tf ro k1 w k2) : EvD K (tOrV te tf) ro ka w k2 := fun B F0 ta sg H Q e q => h1 B F0 ta sg H _ e fun v H1 e1 => ⟨false, e1.tm_bl List.mem_cons_self, h2 B F0 ta sg H1 Q e1.pop q⟩
theorem ev_orV1 (h1 : EvD K te ro ka (.val (.bl true)) k1) : EvD K (tOrV te tf) ro ka (.val (.bl true)) k1 := fun B F0 ta sg H Q e q => h1 B F0 ta sg H _ e fun v H1 e1 => ⟨true, e1.tm_bl List.mem_cons_self, by
  have hv := e1.tm_bl List.mem_cons_self
  subst hv
  exact q _ H1 e1⟩
theorem ev_notV {a : Bool} (h1 : EvD K te ro ka (.val (.bl a)) k1) : EvD K (tNotV te) ro ka (.val (.bl (!a))) k1 := fun B F0 ta sg H Q e q => h1 B F0 ta sg H _ e fun v H1 e1 => ⟨a, e1.tm_bl List.mem_cons_self, q _ _ (e1.pop.push_imm fun _ => rfl)⟩
theorem ev_ifT (h : EvT K tt ro ka true k1) (h1 : EvD K te ro k1 w k2) : EvD K (tIf tt te tf) ro ka w k2 := fun B F0 ta sg H Q e q => h B F0 ta sg H _ e fun H1 e1 => h1 B F0 ta sg H1 Q e1 q
theorem ev_ifF (h : EvT K tt ro ka false k1) (h1 : EvD K tf ro k1 w k2) : EvD K (tIf tt te tf) ro ka w k2 := fun B F0 ta sg H Q e q => h B F0 ta sg H _ e fun H1 e1 => h1 B F0 ta sg H1 Q e1 q
theorem ev_if {b : Bool} (h : EvT K tt ro ka b k1) (h1 : b = true → EvD K te ro k1 w k2) (h2 : b = false → EvD K tf ro k1 w k2) : EvD K (tIf tt te tf) ro ka w k2 := by
  cases b with
  | true => exact ev_ifT h (h1 rfl)
  | false => exact ev_ifF h (h2 rfl)

/-! ### slices' parts -/
theorem eo_none : EvO K tNoPart ro ka none ka := fun B F0 ta sg H Q e q => q H e
theorem eo_some {i : Int} (h : EvD K te ro ka (.val (.int i)) k1) : EvO K (tPart te) ro ka (some i) k1 := fun B F0 ta sg H Q e q => h B F0 ta sg H _ e fun v H1 e1 => ⟨i, e1.tm_int List.mem_cons_self, q H1 e1.pop⟩

/-! ### tuples, lists displayed -/
theorem rpl_of {B F : Hp} : ∀ {vs : List V} {ds : List D}, vs.length = ds.length → (∀ p ∈ vs.zip (ds.map W.val), WOk K B F p.1 p.2) → RpL K F ds vs
  | [], [], _, _ => rfl
  | [], _ :: _, h, _ => by cases h
  | _ :: _, [], h, _ => by cases h
  | v :: vs, d :: ds, hl, h => ⟨v, vs, rfl, h (v, .val d) List.mem_cons_self, rpl_of (by simpa using hl) fun p hp => h p (List.mem_cons_of_mem _ hp)⟩
theorem rpl_len {F : Hp} : ∀ {ds : List D} {vs : List V}, RpL K F ds vs → vs.length = ds.length
  | [], vs, h => by rw [show vs = [] from h]; rfl
  | d :: ds, vs, h => by
    obtain ⟨x, ys, rfl, _, h2⟩ := h
    rw [List.length_cons, List.length_cons, rpl_len h2]
theorem rpl_get {F : Hp} : ∀ {ds : List D} {vs : List V} {i : Nat} {d : D}, RpL K F ds vs → ds[i]? = some d → ∃ v, vs[i]? = some v ∧ Rp K F d v
  | [], _, _, _, _, e => by simp at e
  | d0 :: ds, vs, 0, d, h, e => by
    obtain ⟨x, ys, rfl, h1, _⟩ := h
    cases e
    exact ⟨x, rfl, h1⟩
  | d0 :: ds, vs, i + 1, d, h, e => by
    obtain ⟨x, ys, rfl, _, h2⟩ := h
    obtain ⟨v, q1, q2⟩ := rpl_get (i := i) (d := d) h2 (by simpa using e)
    exact ⟨v, by simpa using q1, q2⟩
theorem rpl_app {F : Hp} : ∀ {ds es : List D} {xs ys : List V}, RpL K F ds xs → RpL K F es ys → RpL K F (ds ++ es) (xs ++ ys)
  | [], es, xs, ys, h, h2 => by rw [show xs = [] from h]; exact h2
  | d :: ds, es, xs, ys, h, h2 => by
    obtain ⟨x, zs, rfl, h1, h3⟩ := h
    exact ⟨x, zs ++ ys, rfl, h1, rpl_app h3 h2⟩
theorem rpl_drop {F : Hp} : ∀ (n : Nat) {ds : List D} {xs : List V}, RpL K F ds xs → RpL K F (ds.drop n) (xs.drop n)
  | 0, _, _, h => h
  | n + 1, [], xs, h => by rw [show xs = [] from h]; rfl
  | n + 1, d :: ds, xs, h => by
    obtain ⟨x, ys, rfl, _, h2⟩ := h
    exact rpl_drop n h2
theorem rpl_take {F : Hp} : ∀ (n : Nat) {ds : List D} {xs : List V}, RpL K F ds xs → RpL K F (ds.take n) (xs.take n)
  | 0, _, _, _ => rfl
  | n + 1, [], xs, h => by rw [show xs = [] from h]; rfl
  | n + 1, d :: ds, xs, h => by
    obtain ⟨x, ys, rfl, h1, h2⟩ := h
    exact ⟨x, ys.take n, rfl, h1, rpl_take n h2⟩
theorem rpl_set {F : Hp} : ∀ {ds : List D} {xs : List V} (i : Nat) {d : D} {v : V}, RpL K F ds xs → Rp K F d v → RpL K F (ds.set i d) (xs.set i v)
  | [], xs, _, _, _, h, _ => by rw [show xs = [] from h]; rfl
  | d :: ds, xs, 0, _, _, h, q => by
    obtain ⟨x, ys, rfl, h1, h2⟩ := h
    exact ⟨_, ys, rfl, q, h2⟩
  | d :: ds, xs, i + 1, _, _, h, q => by
    obtain ⟨x, ys, rfl, h1, h2⟩ := h
    exact ⟨x, _, rfl, h1, rpl_set i h2 q⟩
theorem rpl_rev {F : Hp} : ∀ {ds : List D} {xs : List V}, RpL K F ds xs → RpL K F ds.reverse xs.reverse
  | [], xs, h => by rw [show xs = [] from h]; rfl
  | d :: ds, xs, h => by
    obtain ⟨x, ys, rfl, h1, h2⟩ := h
    rw [List.reverse_cons, List.reverse_cons]
    exact rpl_app (rpl_rev h2) ⟨x, [], rfl, h1, rfl⟩
theorem rpl_repl {F : Hp} {ds : List D} {xs : List V} (h : RpL K F ds xs) : ∀ n : Nat, RpL K F (List.replicate n ds).flatten (List.replicate n xs).flatten
  | 0 => rfl
  | n + 1 => by
    rw [List.replicate_succ, List.replicate_succ, List.flatten_cons, List.flatten_cons]
    exact rpl_app h (rpl_repl h n)
theorem ev_tup {ds : List D} (h : EvA K tr ro ka (ds.map W.val) k1) (hl : ds.length ≤ 100000 := by decide) : EvD K (tTup tr) ro ka (.val (.tup ds)) k1 := fun B F0 ta sg H Q e q => h B F0 ta sg H _ e fun vs H1 hvl e1 => by
  rw [List.length_map] at hvl
  refine ⟨Nat.le_trans (by rw [hvl]; exact hl) (by decide : 100000 ≤ sizeLine), fun p hp => q _ _ ?_⟩
  obtain ⟨F, g, e1⟩ := e1
  obtain ⟨e2, g2⟩ := e1.lay (o := .tup vs) hp rfl
  refine ⟨_, g.trans g2, (e2.held (ta' := ta) fun p hp => List.mem_append_right _ hp).push ⟨p, vs, rfl, .inl (.inl upd_same), ?_⟩⟩
  exact RpL.mono g2.sub.exz e1.nz _ _ (rpl_of hvl fun z hz => e1.tm z (List.mem_append_left _ hz))
theorem evn_lst {ds : List D} (h : EvA K tr ro ka (ds.map W.val) k1) (hl : ds.length ≤ 100000 := by decide) : EvN K (tLst tr) ro ka (.lst ds) k1 := fun B F0 ta sg H Q e q => h B F0 ta sg H _ e fun vs H1 hvl e1 => by
  rw [List.length_map] at hvl
  refine ⟨Nat.le_trans (by rw [hvl]; exact hl) (by decide : 100000 ≤ sizeLine), fun p hp => q _ _ ?_⟩
  obtain ⟨F, g, e1⟩ := e1
  refine ⟨F, g, (e1.cell (o := .lst vs) hp (n := .lst ds) ⟨vs, upd_same, rpl_of hvl fun z hz => e1.tm z (List.mem_append_left _ hz)⟩).held fun p hp => List.mem_append_right _ hp⟩
end
end DL

/-! DC: operations by data (own work). -/
namespace DL
open PySem L2

/-! ### universal operators: each of the ways that this text takes -/
abbrev rAddI : R2 := rI0 fun i j => .int (i + j)
abbrev rAddS : R2 := fun x y H Q => ∃ i j, x = .str i ∧ y = .str j ∧ i.length + j.length ≤ sizeLine ∧ Q (.str (i ++ j)) H
/-- list + list, locked or not -/
def rCatR : R2 := fun x y H Q => ∃ l b xs zs, x = .ref l ∧ y = .ref b ∧ Rd H l (.lst xs) ∧ Rd H b (.lst zs) ∧ xs.length + zs.length ≤ sizeLine ∧ ∀ p, H p = none → Q (.ref p) (upd H p (.lst (xs ++ zs)))
section
variable {X : Cx}
theorem op_catR : OpR X (binaryOp .Add) rCatR := fun pins s sg H x y v u Q I rx ry h => by
  obtain ⟨l, b, xs, zs, ex, ey, h1, h2, hz, q⟩ := h
  subst ex ey
  cases rx
  cases ry
  have ⟨_, us, _, r, e⟩ := h1.ok I.hok
  have ⟨_, ws, _, r2, e2⟩ := h2.ok I.hok
  have lens : us.length + ws.length ≤ sizeLine := by rw [← r.length, ← r2.length]; exact hz
  refine PySem.P.add_list e e2 ?_ (show us.toArray.size + ws.toArray.size ≤ _ by rw [us.size_toArray, ws.size_toArray]; exact lens)
  rw [List.append_toArray]
  exact ⟨.ref _, _, I.lnew (t' := s.toks) (r.append r2) (xs.length_append ▸ hz), rfl, q _ I.fresh⟩
def rAddU (K : PySem.W.Frag) : R2 := fun x y H Q => rAddI x y H Q ∨ (fun x y H Q => rAddS x y H Q ∨ (fun x y H Q => rCatR x y H Q ∨ rCatA K x y H Q) x y H Q) x y H Q
theorem op_addU : OpR X (binaryOp .Add) (rAddU X.K) := op_add.or (op_add_str.or (op_catR.or op_catA))
/-- s * n for texts -/
abbrev rSubI : R2 := rI0 fun i j => .int (i - j)
abbrev rMulI : R2 := rI CMulW fun i j => .int (i * j)
abbrev rPowI : R2 := rI CPow fun i j => .int (i ^ j.toNat)
abbrev rModI : R2 := rI (fun _ j => 0 < j) fun i j => .int (i % j)
abbrev rDivI : R2 := rI CDiv fun i j => .int (i / j)
abbrev rLtI : R2 := rI0 fun i j => .bl (decide (i < j))
abbrev rLeI : R2 := rI0 fun i j => .bl (decide (i ≤ j))
abbrev rGtI : R2 := rI0 fun i j => .bl (decide (j < i))
abbrev rGeI : R2 := rI0 fun i j => .bl (decide (j ≤ i))
end

section
variable {K : PySem.W.Frag} {B F0 : Hp} {ro : Ro} {ka k1 k2 k3 : Cells} {ta : List (V × W)} {sg : L2.St} {H : Hp} {te tf tg : TE} {tl th : TO} {tr : TA} {w x y z : W} {n : Nd} {r : R2}

/-! ### numbers -/
theorem rv_I0 {g : Int → Int → V} {i j : Int} {d : D} (h : ∀ F, Rp K F d (g i j)) : RvD K (rI0 g) ka (.val (.int i)) (.val (.int j)) (.val d) := fun B F0 ro ta sg H u v Q e h1 h2 q =>
  ⟨i, j, e.tm_int h1, e.tm_int h2, q _ _ (e.push_imm fun F => h F)⟩
theorem rv_I {C : Int → Int → Prop} {g : Int → Int → V} {i j : Int} {d : D} (c : C i j) (h : ∀ F, Rp K F d (g i j)) : RvD K (rI C g) ka (.val (.int i)) (.val (.int j)) (.val d) := fun B F0 ro ta sg H u v Q e h1 h2 q =>
  ⟨i, j, e.tm_int h1, e.tm_int h2, c, q _ _ (e.push_imm fun F => h F)⟩
theorem rv_addI {i j : Int} : RvD K (rAddU K) ka (.val (.int i)) (.val (.int j)) (.val (.int (i + j))) := rvd_l (rv_I0 fun _ => rfl)
theorem rv_addS {i j : Str} (h : i.length + j.length ≤ 100000) : RvD K (rAddU K) ka (.val (.str i)) (.val (.str j)) (.val (.str (i ++ j))) := rvd_r (rvd_l fun B F0 ro ta sg H u v Q e h1 h2 q =>
  ⟨i, j, e.tm_str h1, e.tm_str h2, Nat.le_trans h (by decide), q _ _ (e.push_imm fun F => rfl)⟩)
theorem rv_sub {i j : Int} : RvD K rSubI ka (.val (.int i)) (.val (.int j)) (.val (.int (i - j))) := rv_I0 fun _ => rfl
theorem rv_mul {i j : Int} (c : CMulW i j) : RvD K rMulI ka (.val (.int i)) (.val (.int j)) (.val (.int (i * j))) := rv_I c fun _ => rfl
theorem rv_pow {i j : Int} (c : CPow i j) : RvD K rPowI ka (.val (.int i)) (.val (.int j)) (.val (.int (i ^ j.toNat))) := rv_I c fun _ => rfl
theorem rv_mod {i j : Int} (c : 0 < j) : RvD K rModI ka (.val (.int i)) (.val (.int j)) (.val (.int (i % j))) := rv_I c fun _ => rfl
theorem rv_div {i j : Int} (c : CDiv i j) : RvD K rDivI ka (.val (.int i)) (.val (.int j)) (.val (.int (i / j))) := rv_I c fun _ => rfl
theorem rv_lt {i j : Int} : RvD K rLtI ka (.val (.int i)) (.val (.int j)) (.val (.bl (decide (i < j)))) := rv_I0 fun _ => rfl
theorem rv_le {i j : Int} : RvD K rLeI ka (.val (.int i)) (.val (.int j)) (.val (.bl (decide (i ≤ j)))) := rv_I0 fun _ => rfl
theorem rv_gt {i j : Int} : RvD K rGtI ka (.val (.int i)) (.val (.int j)) (.val (.bl (decide (j < i)))) := rv_I0 fun _ => rfl
theorem rv_ge {i j : Int} : RvD K rGeI ka (.val (.int i)) (.val (.int j)) (.val (.bl (decide (j ≤ i)))) := rv_I0 fun _ => rfl
theorem ru_neg {i : Int} : RuD K (rU fun i => .int (-i)) ka (.val (.int i)) (.val (.int (-i))) := fun B F0 ro ta sg H u Q e h1 q => ⟨i, e.tm_int h1, q _ _ (e.push_imm fun F => rfl)⟩

/-! ### sequences: what stands behind a value -/
/-- w is a sequence of ds: t: a tuple; b: viewed -/
inductive Lk (ka : Cells) : W → Bool → List D → Bool → Prop where
  | vl {ds} : Lk ka (.val (.lst ds)) false ds false
  | vt {ds} : Lk ka (.val (.tup ds)) true ds false
  | wl {ds} : Lk ka (.vw (.lst ds)) false ds true
  | wt {ds} : Lk ka (.vw (.tup ds)) true ds true
  | ce {a ds} (j : Nat) (h : ka[j]? = some (a, .lst ds)) : Lk ka (.val (.adr a)) false ds false
def SqB (K : PySem.W.Frag) (t : Bool) (H : Hp) (a : Addr) (xs : List V) : Prop := if t then SqT K H a xs else Rd H a (.lst xs)
theorem SqB.sq {t : Bool} {a : Addr} {xs : List V} (h : SqB K t H a xs) : SqL K H a xs ∨ SqT K H a xs := by
  cases t with
  | true => exact .inr h
  | false => exact .inl (.inl h)
/-- what a sequence's value is, its items over a heap G that H holds -/
theorem Lk.get {F : Hp} {t b : Bool} {ds : List D} {v : V} (l : Lk ka w t ds b) (e : EnF K B F ro ka ta sg H) (h : WOk K B F v w) :
    ∃ a xs, v = .ref a ∧ SqB K t H a xs ∧ RpL K (if b then uni B F else F) ds xs := by
  cases l with
  | vl =>
    obtain ⟨a, xs, rfl, h1, h2⟩ := h
    exact ⟨a, xs, rfl, e.fz.rd e.nz h1, h2⟩
  | vt =>
    obtain ⟨a, xs, rfl, h1, h2⟩ := h
    exact ⟨a, xs, rfl, sqT_mono e.fz e.nz h1, h2⟩
  | wl =>
    obtain ⟨a, xs, rfl, h1, h2⟩ := h
    exact ⟨a, xs, rfl, (uni_exz e.fz e.fr).rd (uni_nz e.nz) h1, h2⟩
  | wt =>
    obtain ⟨a, xs, rfl, h1, h2⟩ := h
    exact ⟨a, xs, rfl, sqT_mono (uni_exz e.fz e.fr) (uni_nz e.nz) h1, h2⟩
  | @ce a ds j hj =>
    obtain ⟨_, _, xs, h1, h2⟩ := e.ce _ (List.mem_of_getElem? hj)
    have hv : v = .ref a := h
    exact ⟨a, xs, hv, .inl h1, h2⟩
theorem Lk.at {F : Hp} {t b : Bool} {ds : List D} {v : V} (l : Lk ka w t ds b) (e : EnF K B F ro ka ta sg H) (h : WOk K B F v w) :
    ∃ a xs, v = .ref a ∧ (SqL K H a xs ∨ SqT K H a xs) ∧ RpL K (if b then uni B F else F) ds xs :=
  let ⟨a, xs, h1, h2, h3⟩ := l.get e h
  ⟨a, xs, h1, h2.sq, h3⟩

/-! ### len -/
/-- len: sequences, texts, dicts -/
def rLenU (K : PySem.W.Frag) : List V → Hp → VK → Prop := fun xs H Q => (fun xs H Q => ∃ p ys, xs = [.ref p] ∧ (SqL K H p ys ∨ SqT K H p ys) ∧ Q (.int ys.length) H) xs H Q ∨ (fun xs H Q => ∃ z, xs = [.str z] ∧ z.length ≤ sizeLine ∧ Q (.int z.length) H) xs H Q
theorem call_lenU {X : Cx} : CallR X (.builtin "len") (rLenU X.K) := call_len_seq.or call_len_str
theorem zip_one {us : List V} {x : W} (h : us.length = [x].length) (hm : ∀ p ∈ us.zip [x], p ∈ ta) : ∃ u, us = [u] ∧ (u, x) ∈ ta := by
  match us, h with
  | [u], _ => exact ⟨u, rfl, hm _ List.mem_cons_self⟩
theorem zip_two {us : List V} {x y : W} (h : us.length = [x, y].length) (hm : ∀ p ∈ us.zip [x, y], p ∈ ta) : ∃ u v, us = [u, v] ∧ (u, x) ∈ ta ∧ (v, y) ∈ ta := by
  match us, h with
  | [u, v], _ => exact ⟨u, v, rfl, hm _ List.mem_cons_self, hm _ (List.mem_cons_of_mem _ List.mem_cons_self)⟩
theorem rc_len {t b : Bool} {ds : List D} (l : Lk ka w t ds b) : RcD K (rLenU K) ka [w] (.val (.int ds.length)) := rcd_l fun B F0 ro ta sg H us Q e hl hm q => by
  obtain ⟨u, rfl, hu⟩ := zip_one hl hm
  obtain ⟨F, g, e⟩ := e
  obtain ⟨a, xs, rfl, h1, h2⟩ := l.at e (e.tm _ hu)
  refine ⟨a, xs, rfl, h1, ?_⟩
  rw [rpl_len h2]
  exact q _ _ ⟨F, g, e.push rfl⟩
theorem rc_lenS {s : Str} (h : s.length ≤ 100000) : RcD K (rLenU K) ka [.val (.str s)] (.val (.int s.length)) := rcd_r fun B F0 ro ta sg H us Q e hl hm q => by
  obtain ⟨u, rfl, hu⟩ := zip_one hl hm
  have hv := e.tm_str hu
  subst hv
  exact ⟨s, rfl, Nat.le_trans h (by decide), q _ _ (e.push_imm fun _ => rfl)⟩

/-! ### items -/
theorem atI_map {α β : Type} {f : α → β → Prop} {xs : List α} {ys : List β} (hl : xs.length = ys.length) {i : Int} {y : β} (h : atI ys i = some y) (hf : ∀ (j : Nat) y, ys[j]? = some y → ∃ x, xs[j]? = some x ∧ f x y) : ∃ x, atI xs i = some x ∧ f x y := by
  unfold atI at h ⊢
  rw [hl]
  cases q : ixN ys.length i with
  | none => rw [q] at h; cases h
  | some j =>
    rw [q] at h
    exact hf j y h
theorem rv_ix {t b : Bool} {ds : List D} {i : Int} {d : D} (l : Lk ka w t ds b) (hd : atI ds i = some d) : RvD K (rIx K) ka w (.val (.int i)) (part b d) := fun B F0 ro ta sg H u v Q e h1 h2 q => by
  have hv := e.tm_int h2
  subst hv
  obtain ⟨F, g, e⟩ := e
  obtain ⟨a, xs, rfl, s1, s2⟩ := l.at e (e.tm _ h1)
  obtain ⟨z, hz, rz⟩ := atI_map (f := fun x d => Rp K (if b then uni B F else F) d x) (rpl_len s2) hd fun j y hy => rpl_get s2 hy
  have fin := q z H ⟨F, g, e.push (wok_part b rz)⟩
  rcases s1 with s1 | s1
  · exact .inl ⟨a, xs, i, z, rfl, rfl, s1, hz, fin⟩
  · exact .inr (.inl ⟨a, xs, i, z, rfl, rfl, s1, hz, fin⟩)
theorem rv_ixS {s : Str} {i : Int} {c : Nat} (hs : s.length ≤ 100000) (hc : atI s.cps.toList i = some c) : RvD K (rIx K) ka (.val (.str s)) (.val (.int i)) (.val (.str ⟨#[c]⟩)) := fun B F0 ro ta sg H u v Q e h1 h2 q =>
  .inr (.inr ⟨s, i, c, e.tm_str h1, e.tm_int h2, Nat.le_trans hs (by decide), hc, q _ _ (e.push_imm fun _ => rfl)⟩)

/-! ### slices -/
abbrev rSlU (K : PySem.W.Frag) : V → Option Int → Option Int → Hp → VK → Prop := fun x lo hi H Q => rSlL K x lo hi H Q ∨ (fun x lo hi H Q => rSlA K x lo hi H Q ∨ rSlS x lo hi H Q) x lo hi H Q
theorem sl_U {X : Cx} : SlR X (rSlU X.K) := sl_list.or (sl_tupA.or sl_str)
def cutD {α : Type} (xs : List α) (lo hi : Option Int) : List α := (xs.drop (HT.sIx xs.length 0 lo)).take (HT.sIx xs.length xs.length hi - HT.sIx xs.length 0 lo)
theorem rpl_cut {F : Hp} {ds : List D} {xs : List V} (h : RpL K F ds xs) (lo hi : Option Int) : RpL K F (cutD ds lo hi) (cutV xs lo hi) := by
  unfold cutD cutV
  rw [rpl_len h]
  exact rpl_take _ (rpl_drop _ h)
theorem evn_sl {lo hi : Option Int} {ds : List D} (ha : EvD K te ro ka w k1) (h1 : EvO K tl ro k1 lo k2) (h2 : EvO K th ro k2 hi k3) (l : Lk k3 w false ds false) : EvN K (tSl (rSlU K) te tl th) ro ka (.lst (cutD ds lo hi)) k3 := fun B F0 ta sg H Q e q =>
  ha B F0 ta sg H _ e fun u H1 e1 => h1 B F0 _ sg H1 _ e1 fun H2 e2 => h2 B F0 _ sg H2 _ e2 fun H3 e3 => by
    obtain ⟨F, g, e3⟩ := e3
    obtain ⟨a, xs, rfl, s1, s2⟩ := l.get e3 (e3.tm _ List.mem_cons_self)
    refine .inl ⟨a, xs, rfl, .inl s1, fun p hp => q p _ ?_⟩
    exact ⟨F, g, (e3.cell (o := .lst (cutV xs lo hi)) hp (n := .lst (cutD ds lo hi)) ⟨_, upd_same, rpl_cut s2 lo hi⟩).held fun p hp => List.mem_cons_of_mem _ hp⟩
theorem ev_slT {lo hi : Option Int} {ds : List D} (ha : EvD K te ro ka (.val (.tup ds)) k1) (h1 : EvO K tl ro k1 lo k2) (h2 : EvO K th ro k2 hi k3) : EvD K (tSl (rSlU K) te tl th) ro ka (.val (.tup (cutD ds lo hi))) k3 := fun B F0 ta sg H Q e q =>
  ha B F0 ta sg H _ e fun u H1 e1 => h1 B F0 _ sg H1 _ e1 fun H2 e2 => h2 B F0 _ sg H2 _ e2 fun H3 e3 => by
    obtain ⟨F, g, e3⟩ := e3
    obtain ⟨a, xs, rfl, s1, s2⟩ := Lk.vt.get e3 (e3.tm _ List.mem_cons_self)
    have hk := e3.tm _ List.mem_cons_self
    refine .inr (.inl ⟨a, xs, rfl, s1, fun hw => q _ _ ⟨F, g, (e3.held (ta' := ta) fun p hp => List.mem_cons_of_mem _ hp).push ?_⟩, fun _ p hp => q (.ref p) _ ?_⟩)
    · have e0 : cutD ds lo hi = ds := by
        unfold cutD
        rw [← rpl_len s2, hw.1, hw.2]
        simp
        exact List.take_of_length_le (by rw [rpl_len s2]; exact Nat.le_refl _)
      rw [e0]
      exact hk
    · obtain ⟨e4, g4⟩ := e3.lay (o := .tup (cutV xs lo hi)) hp rfl
      exact ⟨_, g.trans g4, (e4.held (ta' := ta) fun p hp => List.mem_cons_of_mem _ hp).push ⟨p, _, rfl, .inl (.inl upd_same), RpL.mono g4.sub.exz e3.nz _ _ (rpl_cut s2 lo hi)⟩⟩
theorem ev_slS {lo hi : Option Int} {s : Str} (ha : EvD K te ro ka (.val (.str s)) k1) (h1 : EvO K tl ro k1 lo k2) (h2 : EvO K th ro k2 hi k3) (hs : s.length ≤ 100000) : EvD K (tSl (rSlU K) te tl th) ro ka (.val (.str (cutS s lo hi))) k3 := fun B F0 ta sg H Q e q =>
  ha B F0 ta sg H _ e fun u H1 e1 => h1 B F0 _ sg H1 _ e1 fun H2 e2 => h2 B F0 _ sg H2 _ e2 fun H3 e3 =>
    .inr (.inr ⟨s, e3.tm_str List.mem_cons_self, Nat.le_trans hs (by decide), q _ _ (e3.pop.push_imm fun _ => rfl)⟩)

/-! ### list + list, tuple + tuple -/
theorem rvn_cat {b1 b2 : Bool} {ds es : List D} (l1 : Lk ka x false ds false) (l2 : Lk ka y false es false) (hz : ds.length + es.length ≤ 100000) : RvN K (rAddU K) ka x y (.lst (ds ++ es)) :=
  rvn_r (rvn_r (rvn_l fun B F0 ro ta sg H u v Q e h1 h2 q => by
    obtain ⟨F, g, e⟩ := e
    obtain ⟨a, xs, rfl, s1, r1⟩ := l1.get e (e.tm _ h1)
    obtain ⟨b, ys, rfl, s2, r2⟩ := l2.get e (e.tm _ h2)
    refine ⟨a, b, xs, ys, rfl, rfl, s1, s2, by rw [rpl_len r1, rpl_len r2]; exact Nat.le_trans hz (by decide), fun p hp => q p _ ?_⟩
    exact ⟨F, g, e.cell (o := .lst (xs ++ ys)) hp (n := .lst (ds ++ es)) ⟨_, upd_same, rpl_app r1 r2⟩⟩))
end
end DL

/-! DS: statements, loops, contracts by data (own work). -/
namespace DL
open PySem L2

section
variable (K : PySem.W.Frag)
/-- from such a state P holds -/
def Gp (B F0 : Hp) (ta : List (V × W)) (P : L2.St → Hp → Prop) (ro : Ro) (ka : Cells) : Prop := ∀ sg H, En K B F0 ro ka ta sg H → P sg H
/-- how a call ends: with data, or an exception of a class, its own fields -/
inductive Out where
  | ret (d : D) | exc (C : Addr) (fs : List (Str × D)) | exc0 (C : Addr)
abbrev Ct := List W → Cells → (Out → Cells → Prop) → Prop
/-- what is wanted at a return -/
def RtOk (B F0 : Hp) (out : Out → Cells → Prop) (rt : VK) : Prop := ∀ d ka v H, out (.ret d) ka → En K B F0 [] ka [(v, .val d)] [] H → rt v H
def RxOk (B F0 : Hp) (out : Out → Cells → Prop) (E : XK) : Prop :=
  (∀ C fs ka dx H, out (.exc C fs) ka → En K B F0 [] (ka ++ [(dx, .xd fs)]) [] [] H → E (.ref C) (some dx) H) ∧
  ∀ C ka H, out (.exc0 C) ka → En K B F0 [] ka [] [] H → E (.ref C) none H
/-- the promise of a contract -/
def spC (C : Ct) : Sp := fun vs H Q E => ∃ B F args ka out, C args ka out ∧ vs.length = args.length ∧ En K B F [] ka (vs.zip args) [] H ∧ RtOk K B F out Q ∧ RxOk K B F out E
end

section
variable {K : PySem.W.Frag} {B F0 : Hp} {ro : Ro} {ka k1 k2 k3 : Cells} {ta : List (V × W)} {sg : L2.St} {H : Hp} {te tf tg : TE} {tl th : TO} {tr : TA} {tt : TT} {w x y z : W} {n : Nd} {r : R2} {De : Ends} {t u : TS} {P : L2.St → Hp → Prop}
theorem En.gp (e : En K B F0 ro ka ta sg H) (h : Gp K B F0 ta P ro ka) : P sg H := h sg H e
theorem En.set (e : En K B F0 ro ka ((v, w) :: ta) sg H) (i : Nat) : En K B F0 (ro.set i (some w)) ka ta (sg.set i (some v)) H :=
  let ⟨F, g, q⟩ := e
  ⟨F, g, (q.set (q.tm _ List.mem_cons_self) i).held fun _ h => List.mem_cons_of_mem _ h⟩
theorem En.setA (e : En K B F0 ro ka ta sg H) (i : Nat) (a : Addr) : En K B F0 (ro.set i (some (.val (.adr a)))) ka ta (sg.set i (some (.ref a))) H :=
  let ⟨F, g, q⟩ := e
  ⟨F, g, q.set (w := .val (.adr a)) rfl i⟩
/-! ### plain statements -/
theorem g_seq (h : Gp K B F0 ta (t { De with nx := u De }) ro ka) : Gp K B F0 ta (tSeq t u De) ro ka := h
theorem g_next (h : Gp K B F0 ta De.nx ro ka) : Gp K B F0 ta (tNext De) ro ka := h
theorem g_brk (h : Gp K B F0 ta De.bk ro ka) : Gp K B F0 ta (tBreak De) ro ka := h
theorem g_cont (h : Gp K B F0 ta De.ct ro ka) : Gp K B F0 ta (tCont De) ro ka := h
theorem g_asg {i : Nat} (h : EvD K te ro ka w k1) (k : Gp K B F0 ta De.nx (ro.set i (some w)) k1) : Gp K B F0 ta (tAsg te (gName i) De) ro ka := fun sg H e => h B F0 ta sg H _ e fun v H1 e1 => k _ _ (e1.set i)
theorem g_asgN {i : Nat} (h : EvN K te ro ka n k1) (k : ∀ a, Gp K B F0 ta De.nx (ro.set i (some (.val (.adr a)))) (k1 ++ [(a, n)])) : Gp K B F0 ta (tAsg te (gName i) De) ro ka := fun sg H e => h B F0 ta sg H _ e fun a H1 e1 => k a _ _ (e1.setA i a)
theorem q_asg {i : Nat} (h : EvD K te ro ka w k1) (k : Gp K B F0 ta (u De) (ro.set i (some w)) k1) : Gp K B F0 ta (tSeq (tAsg te (gName i)) u De) ro ka := g_asg (De := { De with nx := u De }) h k
theorem q_asgN {i : Nat} (h : EvN K te ro ka n k1) (k : ∀ a, Gp K B F0 ta (u De) (ro.set i (some (.val (.adr a)))) (k1 ++ [(a, n)])) : Gp K B F0 ta (tSeq (tAsg te (gName i)) u De) ro ka := g_asgN (De := { De with nx := u De }) h k
theorem g_drop (h : EvD K te ro ka w k1) (k : Gp K B F0 ta De.nx ro k1) : Gp K B F0 ta (tDrop te De) ro ka := fun sg H e => h B F0 ta sg H _ e fun v H1 e1 => k _ _ e1.pop
theorem q_drop (h : EvD K te ro ka w k1) (k : Gp K B F0 ta (u De) ro k1) : Gp K B F0 ta (tSeq (tDrop te) u De) ro ka := g_drop (De := { De with nx := u De }) h k
theorem g_if {b : Bool} {u : TS} (h : EvT K tt ro ka b k1) (h1 : b = true → Gp K B F0 ta (t De) ro k1) (h2 : b = false → Gp K B F0 ta (u De) ro k1) : Gp K B F0 ta (tIfS tt t u De) ro ka := fun sg H e => h B F0 ta sg H _ e fun H1 e1 => by
  cases b with
  | true => exact h1 rfl _ _ e1
  | false => exact h2 rfl _ _ e1
theorem q_if {b : Bool} {t' : TS} (h : EvT K tt ro ka b k1) (h1 : b = true → Gp K B F0 ta (t { De with nx := u De }) ro k1) (h2 : b = false → Gp K B F0 ta (t' { De with nx := u De }) ro k1) : Gp K B F0 ta (tSeq (tIfS tt t t') u De) ro ka := g_if (De := { De with nx := u De }) h h1 h2
/-- an if without else -/
theorem q_when {b : Bool} (h : EvT K tt ro ka b k1) (h1 : b = true → Gp K B F0 ta (t { De with nx := u De }) ro k1) (h2 : b = false → Gp K B F0 ta (u De) ro k1) : Gp K B F0 ta (tSeq (tIfS tt t tNext) u De) ro ka := g_if (De := { De with nx := u De }) h h1 h2
theorem En.leave (e : En K B F0 ro ka ((v, w) :: ta) sg H) : En K B F0 [] ka [(v, w)] [] H :=
  let ⟨F, g, q⟩ := e
  ⟨F, g, (q.frame (ro' := []) (sg' := []) rfl fun i w h => by simp at h).held fun p hp => by
    have : p = (v, w) := by simpa using hp
    rw [this]
    exact List.mem_cons_self⟩
theorem g_ret {out : Out → Cells → Prop} {d : D} {De : Ends} (hr : RtOk K B F0 out De.rt) (h : EvD K te ro ka (.val d) k1) (o : out (.ret d) k1) : Gp K B F0 ta (tRet te De) ro ka := fun sg H e => h B F0 ta sg H _ e fun v H1 e1 => hr d k1 v H1 o e1.leave
theorem g_retN {out : Out → Cells → Prop} {De : Ends} (hr : RtOk K B F0 out De.rt) (o : out (.ret .non) ka) : Gp K B F0 ta (tRetN De) ro ka := fun sg H e => hr .non ka .non H o ((e.push_imm (v := .non) (w := .val .non) fun _ => rfl).leave)
/-- the body's end without a return -/
theorem g_end {out : Out → Cells → Prop} {Q : VK} (hr : RtOk K B F0 out Q) (o : out (.ret .non) ka) : Gp K B F0 ta (fun _ H' => Q .non H') ro ka := fun sg H e => hr .non ka .non H o ((e.push_imm (v := .non) (w := .val .non) fun _ => rfl).leave)
/-! ### cells changed -/
theorem EnF.rd_lst {F : Hp} (e : EnF K B F ro ka ta sg H) {j : Nat} {a : Addr} {ds : List D} (hj : ka[j]? = some (a, .lst ds)) : ∃ xs, H a = some (.lst xs) ∧ RpL K F ds xs := (e.ce _ (List.mem_of_getElem? hj)).2.2
theorem g_app {j0 j : Nat} {a : Addr} {ds0 ds : List D} {d : D} {De : Ends} (ho : EvD K te ro ka (.val (.adr a)) k1) (h0 : k1[j0]? = some (a, .lst ds0)) (he : EvD K tf ro k1 (.val d) k2) (hj : k2[j]? = some (a, .lst ds)) (hz : ds.length < 100000)
    (k : Gp K B F0 ta De.nx ro (k2.set j (a, .lst (ds ++ [d])))) : Gp K B F0 ta (tDrop (tBM K "list" rAppend te (tCons tf tNil)) De) ro ka := fun sg H e => ho B F0 ta sg H _ e fun u H1 e1 => by
  have hu := e1.tm_adr List.mem_cons_self
  subst hu
  refine ⟨?_, he B F0 _ sg H1 _ e1 fun v H2 e2 => ?_⟩
  · obtain ⟨F, g, e1⟩ := e1
    obtain ⟨xs, hx, _⟩ := e1.rd_lst h0
    exact .inl ⟨rfl, xs, .inl (.inl hx)⟩
  · obtain ⟨F, g, e2⟩ := e2
    obtain ⟨xs, hx, rx⟩ := e2.rd_lst hj
    have hv := e2.tm _ List.mem_cons_self
    refine ⟨a, xs, v, rfl, rfl, hx, by rw [rpl_len rx]; exact Nat.lt_of_lt_of_le hz (by decide), k _ _ ⟨F, g, ?_⟩⟩
    exact (e2.write (o := .lst (xs ++ [v])) (n' := .lst (ds ++ [d])) hj ⟨_, upd_same, rpl_app rx ⟨v, [], rfl, hv, rfl⟩⟩).held fun p hp => List.mem_cons_of_mem _ (List.mem_cons_of_mem _ hp)
theorem q_app {j0 j : Nat} {a : Addr} {ds0 ds : List D} {d : D} {De : Ends} (ho : EvD K te ro ka (.val (.adr a)) k1) (h0 : k1[j0]? = some (a, .lst ds0)) (he : EvD K tf ro k1 (.val d) k2) (hj : k2[j]? = some (a, .lst ds)) (hz : ds.length < 100000)
    (k : Gp K B F0 ta (u De) ro (k2.set j (a, .lst (ds ++ [d])))) : Gp K B F0 ta (tSeq (tDrop (tBM K "list" rAppend te (tCons tf tNil))) u De) ro ka := g_app (De := { De with nx := u De }) ho h0 he hj hz k
/-- xs[i] = v -/
theorem g_seti {j : Nat} {a : Addr} {ds : List D} {d : D} {i : Int} {ix : Nat} {De : Ends} (he : EvD K tf ro ka (.val d) k1) (ho : EvD K te ro k1 (.val (.adr a)) k2) (hi : EvD K tg ro k2 (.val (.int i)) k3) (hj : k3[j]? = some (a, .lst ds)) (hx : ixN ds.length i = some ix)
    (k : Gp K B F0 ta De.nx ro (k3.set j (a, .lst (ds.set ix d)))) : Gp K B F0 ta (tAsg tf (gSub te tg rSetL) De) ro ka := fun sg H e => he B F0 ta sg H _ e fun v H1 e1 => ho B F0 _ sg H1 _ e1 fun u H2 e2 => hi B F0 _ sg H2 _ e2 fun i' H3 e3 => by
  have hu := e3.tm_adr (List.mem_cons_of_mem _ List.mem_cons_self)
  have hi' := e3.tm_int List.mem_cons_self
  subst hu hi'
  obtain ⟨F, g, e3⟩ := e3
  obtain ⟨xs, hxs, rx⟩ := e3.rd_lst hj
  have hv := e3.tm (v, .val d) (List.mem_cons_of_mem _ (List.mem_cons_of_mem _ List.mem_cons_self))
  refine ⟨a, xs, i, ix, rfl, rfl, hxs, by rw [rpl_len rx]; exact hx, k _ _ ⟨F, g, ?_⟩⟩
  exact (e3.write (o := .lst (xs.set ix v)) (n' := .lst (ds.set ix d)) hj ⟨_, upd_same, rpl_set ix rx hv⟩).held fun p hp => List.mem_cons_of_mem _ (List.mem_cons_of_mem _ (List.mem_cons_of_mem _ hp))
theorem q_seti {j : Nat} {a : Addr} {ds : List D} {d : D} {i : Int} {ix : Nat} {De : Ends} (he : EvD K tf ro ka (.val d) k1) (ho : EvD K te ro k1 (.val (.adr a)) k2) (hi : EvD K tg ro k2 (.val (.int i)) k3) (hj : k3[j]? = some (a, .lst ds)) (hx : ixN ds.length i = some ix)
    (k : Gp K B F0 ta (u De) ro (k3.set j (a, .lst (ds.set ix d)))) : Gp K B F0 ta (tSeq (tAsg tf (gSub te tg rSetL)) u De) ro ka := g_seti (De := { De with nx := u De }) he ho hi hj hx k

/-! ### what is walked -/
/-- wi walks through the items ws, while C holds of the cells -/
def EvI (K : PySem.W.Frag) (wi : TI) (ro : Ro) (ka : Cells) (ws : List W) (C : Cells → Prop) (ka' : Cells) : Prop := ∀ B F0 ta sg H (R : It → Hp → Prop), En K B F0 ro ka ta sg H →
  (∀ J ta' H', (∀ p ∈ ta, p ∈ ta') → En K B F0 ro ka' ta' sg H' →
    (∀ i w ro2 ka2 ta2 sg2 H2, ws[i]? = some w → C ka2 → (∀ p ∈ ta', p ∈ ta2) → En K B F0 ro2 ka2 ta2 sg2 H2 → J.go i H2 ∧ ∀ x H3, J.yld i H2 x H3 → En K B F0 ro2 ka2 ((x, w) :: ta2) sg2 H3) →
    (∀ i ro2 ka2 ta2 sg2 H2, ws.length ≤ i → C ka2 → (∀ p ∈ ta', p ∈ ta2) → En K B F0 ro2 ka2 ta2 sg2 H2 → J.stop i H2) → R J H') → wi sg H R
/-- the word between two turns -/
def Jp (K : PySem.W.Frag) (B F0 : Hp) (ta : List (V × W)) (Inv : Ro → Cells → Prop) : L2.St → Hp → Prop := fun sg H => ∃ ro ka, Inv ro ka ∧ En K B F0 ro ka ta sg H
theorem g_jp {Inv : Ro → Cells → Prop} (h : Inv ro ka) : Gp K B F0 ta (Jp K B F0 ta Inv) ro ka := fun sg H e => ⟨ro, ka, h, e⟩
theorem g_for {wi : TI} {ws : List W} {C : Cells → Prop} {g : TG} {tb : TS} {De : Ends} (h : EvI K wi ro ka ws C k1) (Inv : Nat → Ro → Cells → Prop) (h0 : Inv 0 ro k1) (hC : ∀ i ro2 ka2, Inv i ro2 ka2 → C ka2)
    (hs : ∀ i w ro2 ka2, ws[i]? = some w → Inv i ro2 ka2 → ∀ ta', Gp K B F0 ta' (fun sg H => ∀ x, En K B F0 ro2 ka2 ((x, w) :: ta') sg H → g x sg H fun sg2 H2 => tb { De with nx := Jp K B F0 ta' (Inv (i + 1)), ct := Jp K B F0 ta' (Inv (i + 1)), bk := De.nx } sg2 H2) ro2 ka2)
    (hd : ∀ ro2 ka2 ta', Inv ws.length ro2 ka2 → (∀ p ∈ ta, p ∈ ta') → Gp K B F0 ta' De.nx ro2 ka2) : Gp K B F0 ta (tFor wi g tb De) ro ka := fun sg H e =>
  h B F0 ta sg H _ e fun J ta' H1 hta e1 hgo hst => by
    refine ⟨fun i m sg H => m = ws.length - i ∧ i ≤ ws.length ∧ Jp K B F0 ta' (Inv i) sg H, ⟨ws.length, by simp, Nat.zero_le _, ro, k1, h0, e1⟩, ?_⟩
    rintro i m sg2 H2 ⟨rfl, hi, ro2, ka2, inv, e2⟩
    by_cases hlt : i < ws.length
    · obtain ⟨g1, g2⟩ := hgo i ws[i] ro2 ka2 ta' sg2 H2 (List.getElem?_eq_getElem hlt) (hC i ro2 ka2 inv) (fun p hp => hp) e2
      refine .inr ⟨g1, Jp K B F0 ta' (Inv (i + 1)), fun sg' H' q => ⟨ws.length - (i + 1), by omega, rfl, hlt, q⟩, fun x H3 y => ?_⟩
      have e3 := g2 x H3 y
      exact hs i ws[i] ro2 ka2 (List.getElem?_eq_getElem hlt) inv ta' sg2 H3 e3.pop x e3
    · have ei : i = ws.length := by omega
      subst ei
      exact .inl ⟨hst _ ro2 ka2 ta' sg2 H2 (Nat.le_refl _) (hC _ ro2 ka2 inv) (fun p hp => hp) e2, hd ro2 ka2 ta' inv hta sg2 H2 e2⟩
/-- .. the target a name -/
theorem g_forn {wi : TI} {ws : List W} {C : Cells → Prop} {j : Nat} {tb : TS} {De : Ends} (h : EvI K wi ro ka ws C k1) (Inv : Nat → Ro → Cells → Prop) (h0 : Inv 0 ro k1) (hC : ∀ i ro2 ka2, Inv i ro2 ka2 → C ka2)
    (hs : ∀ i w ro2 ka2 ta', ws[i]? = some w → Inv i ro2 ka2 → Gp K B F0 ta' (tb { De with nx := Jp K B F0 ta' (Inv (i + 1)), ct := Jp K B F0 ta' (Inv (i + 1)), bk := De.nx }) (ro2.set j (some w)) ka2)
    (hd : ∀ ro2 ka2 ta', Inv ws.length ro2 ka2 → (∀ p ∈ ta, p ∈ ta') → Gp K B F0 ta' De.nx ro2 ka2) : Gp K B F0 ta (tFor wi (gName j) tb De) ro ka :=
  g_for h Inv h0 hC (fun i w ro2 ka2 hw inv ta' sg H e x ex => hs i w ro2 ka2 ta' hw inv _ _ (ex.set j)) hd
theorem q_forn {wi : TI} {ws : List W} {C : Cells → Prop} {j : Nat} {tb : TS} {De : Ends} (h : EvI K wi ro ka ws C k1) (Inv : Nat → Ro → Cells → Prop) (h0 : Inv 0 ro k1) (hC : ∀ i ro2 ka2, Inv i ro2 ka2 → C ka2)
    (hs : ∀ i w ro2 ka2 ta', ws[i]? = some w → Inv i ro2 ka2 → Gp K B F0 ta' (tb { De with nx := Jp K B F0 ta' (Inv (i + 1)), ct := Jp K B F0 ta' (Inv (i + 1)), bk := u De }) (ro2.set j (some w)) ka2)
    (hd : ∀ ro2 ka2 ta', Inv ws.length ro2 ka2 → (∀ p ∈ ta, p ∈ ta') → Gp K B F0 ta' (u De) ro2 ka2) : Gp K B F0 ta (tSeq (tFor wi (gName j) tb) u De) ro ka := g_forn (De := { De with nx := u De }) h Inv h0 hC hs hd
/-- while: a word and a number that falls -/
theorem g_while {tb : TS} {De : Ends} (Inv : Nat → Ro → Cells → Prop) (m0 : Nat) (h0 : Inv m0 ro ka)
    (hs : ∀ m ro2 ka2, Inv m ro2 ka2 → ∃ b k2, EvT K tt ro2 ka2 b k2 ∧ (b = true → Gp K B F0 ta (tb { De with nx := Jp K B F0 ta (fun r k => ∃ m', m' < m ∧ Inv m' r k), ct := Jp K B F0 ta (fun r k => ∃ m', m' < m ∧ Inv m' r k), bk := De.nx }) ro2 k2) ∧ (b = false → Gp K B F0 ta De.nx ro2 k2)) :
    Gp K B F0 ta (tWhile tt tb De) ro ka := fun sg H e => by
  refine ⟨fun m sg H => Jp K B F0 ta (Inv m) sg H, ⟨m0, ro, ka, h0, e⟩, fun m sg2 H2 ⟨ro2, ka2, inv, e2⟩ => ?_⟩
  obtain ⟨b, k2, ht, h1, h2⟩ := hs m ro2 ka2 inv
  refine ht B F0 ta sg2 H2 _ e2 fun H3 e3 => ?_
  cases b with
  | true => exact ⟨_, fun sg' H' ⟨r, k, ⟨m', hm, inv'⟩, e'⟩ => ⟨m', hm, r, k, inv', e'⟩, h1 rfl _ _ e3⟩
  | false => exact h2 rfl _ _ e3
theorem q_while {tb : TS} {De : Ends} (Inv : Nat → Ro → Cells → Prop) (m0 : Nat) (h0 : Inv m0 ro ka)
    (hs : ∀ m ro2 ka2, Inv m ro2 ka2 → ∃ b k2, EvT K tt ro2 ka2 b k2 ∧ (b = true → Gp K B F0 ta (tb { De with nx := Jp K B F0 ta (fun r k => ∃ m', m' < m ∧ Inv m' r k), ct := Jp K B F0 ta (fun r k => ∃ m', m' < m ∧ Inv m' r k), bk := u De }) ro2 k2) ∧ (b = false → Gp K B F0 ta (u De) ro2 k2)) :
    Gp K B F0 ta (tSeq (tWhile tt tb) u De) ro ka := g_while (De := { De with nx := u De }) Inv m0 h0 hs

theorem ei_range1 {tr : TA} {m : Int} (h : EvA K tr ro ka [.val (.int m)] k1) (hm : m ≤ 1000000) (hm0 : -1000000 ≤ m) : EvI K (iRng1 tr) ro ka ((List.range m.toNat).map fun i : Nat => W.val (.int (i : Int))) (fun _ => True) k1 := fun B F0 ta sg H R e q =>
  h B F0 ta sg H _ e fun vs H1 hl e1 => by
    match vs, hl with
    | [v], _ =>
      have hv := e1.tm_int (v := v) (i := m) List.mem_cons_self
      subst hv
      refine ⟨m, rfl, by omega, by omega, q _ ta H1 (fun p hp => hp) (e1.held fun p hp => List.mem_append_right _ hp) (fun i w ro2 ka2 ta2 sg2 H2 hw _ _ e2 => ?_) fun i ro2 ka2 ta2 sg2 H2 hi _ _ _ => ?_⟩
      · rw [List.getElem?_map] at hw
        cases hi : (List.range m.toNat)[i]? with
        | none => rw [hi] at hw; cases hw
        | some j =>
          rw [hi] at hw
          obtain ⟨hlt, hj⟩ := List.getElem?_eq_some_iff.mp hi
          rw [List.getElem_range] at hj
          subst hj
          cases hw
          refine ⟨by show i < _; simpa using hlt, fun x H3 ⟨e3, ex⟩ => ?_⟩
          subst e3 ex
          exact e2.push_imm fun _ => by
            show V.int (0 + (i : Int)) = V.int (i : Int)
            rw [Int.zero_add]
      · rw [List.length_map, List.length_range] at hi
        exact hi
theorem ei_range2 {tr : TA} {l m : Int} (h : EvA K tr ro ka [.val (.int l), .val (.int m)] k1) (hm : m ≤ 1000000) (hm0 : -1000000 ≤ m) (hl0 : -1000000 ≤ l) (hl1 : l ≤ 1000000) : EvI K (iRng2 tr) ro ka ((List.range (m - l).toNat).map fun i : Nat => W.val (.int (l + (i : Int)))) (fun _ => True) k1 := fun B F0 ta sg H R e q =>
  h B F0 ta sg H _ e fun vs H1 hl e1 => by
    match vs, hl with
    | [v, v'], _ =>
      have hv := e1.tm_int (v := v) (i := l) List.mem_cons_self
      have hv' := e1.tm_int (v := v') (i := m) (List.mem_cons_of_mem _ List.mem_cons_self)
      subst hv hv'
      refine ⟨l, m, rfl, ⟨by omega, by omega, by omega, by omega⟩, q _ ta H1 (fun p hp => hp) (e1.held fun p hp => List.mem_append_right _ hp) (fun i w ro2 ka2 ta2 sg2 H2 hw _ _ e2 => ?_) fun i ro2 ka2 ta2 sg2 H2 hi _ _ _ => ?_⟩
      · rw [List.getElem?_map] at hw
        cases hi : (List.range (m - l).toNat)[i]? with
        | none => rw [hi] at hw; cases hw
        | some j =>
          rw [hi] at hw
          obtain ⟨hlt, hj⟩ := List.getElem?_eq_some_iff.mp hi
          rw [List.getElem_range] at hj
          subst hj
          cases hw
          refine ⟨by show i < _; simpa using hlt, fun x H3 ⟨e3, ex⟩ => ?_⟩
          subst e3 ex
          exact e2.push_imm fun _ => rfl
      · rw [List.length_map, List.length_range] at hi
        exact hi
end

/-! ### any sequence walked -/
/-- lists, tuples, texts -/
def iSeq (K : PySem.W.Frag) (tl : TE) : TI := fun sg H R => iList K tl sg H R ∨ iTup K tl sg H R ∨ iStr tl sg H R
theorem pi_seq {X : Cx} {tg : Expr} {l : Expr} {tl : TE} (hl : PE X l tl) : PI X tg l (iSeq X.K tl) :=
  ⟨fun pins s sg H R I h => h.elim ((pi_list hl).run pins s sg H R I) fun h => h.elim ((pi_tup hl).run pins s sg H R I) ((pi_str hl).run pins s sg H R I)⟩
section
variable {K : PySem.W.Frag} {ro : Ro} {ka k1 : Cells} {te : TE} {w : W}
/-- the cell that is walked stays -/
def Stay (w : W) (ds : List D) (ka : Cells) : Prop := match w with
  | .val (.adr a) => (a, Nd.lst ds) ∈ ka
  | _ => True
theorem Lk.mono {ka : Cells} {t b : Bool} {ds : List D} (l : Lk ka w t ds b) (ka2 : Cells) (h : Stay w ds ka2) : Lk ka2 w t ds b := by
  cases l with
  | vl => exact .vl
  | vt => exact .vt
  | wl => exact .wl
  | wt => exact .wt
  | ce j hj =>
    obtain ⟨j2, h2⟩ := List.getElem?_of_mem h
    exact .ce j2 h2
theorem ei_seq {t b : Bool} {ds : List D} (h : EvD K te ro ka w k1) (l : Lk k1 w t ds b) : EvI K (iSeq K te) ro ka (ds.map (part b)) (Stay w ds) k1 := fun B F0 ta sg H R e q => by
  have again : ∀ (a : Addr) ro2 ka2 ta2 sg2 H2, Stay w ds ka2 → (V.ref a, w) ∈ ta2 → En K B F0 ro2 ka2 ta2 sg2 H2 → ∃ F ys, EnF K B F ro2 ka2 ta2 sg2 H2 ∧ Gr B F0 F ∧ SqB K t H2 a ys ∧ RpL K (if b then uni B F else F) ds ys := fun a ro2 ka2 ta2 sg2 H2 hs hm e2 => by
    obtain ⟨F, g, e2⟩ := e2
    obtain ⟨a', ys, e', s2, r2⟩ := (l.mono ka2 hs).get e2 (e2.tm _ hm)
    cases e'
    exact ⟨F, ys, e2, g, s2, r2⟩
  have item : ∀ {i : Nat} {w2 : W} {F : Hp} {ys : List V}, (ds.map (part b))[i]? = some w2 → RpL K (if b then uni B F else F) ds ys → ∃ y, ys[i]? = some y ∧ WOk K B F y w2 := fun {i w2 F ys} hw r2 => by
    rw [List.getElem?_map] at hw
    cases hd : ds[i]? with
    | none => rw [hd] at hw; cases hw
    | some d =>
      rw [hd] at hw
      cases hw
      obtain ⟨y, hy, ry⟩ := rpl_get r2 hd
      exact ⟨y, hy, wok_part b ry⟩
  cases t with
  | true =>
    refine .inr (.inl (h B F0 ta sg H _ e fun v H1 e1 => ?_))
    obtain ⟨F, g, ef⟩ := id e1
    obtain ⟨a, xs, rfl, s1, r1⟩ := l.get ef (ef.tm _ List.mem_cons_self)
    refine ⟨a, rfl, ⟨xs, s1⟩, q _ ((.ref a, w) :: ta) H1 (fun p hp => List.mem_cons_of_mem _ hp) e1 (fun i w2 ro2 ka2 ta2 sg2 H2 hw hs hm e2 => ?_) fun i ro2 ka2 ta2 sg2 H2 hi hs hm e2 => ?_⟩
    · obtain ⟨F2, ys, ef2, g2, s2, r2⟩ := again a ro2 ka2 ta2 sg2 H2 hs (hm _ List.mem_cons_self) e2
      obtain ⟨y, hy, wy⟩ := item hw r2
      refine ⟨⟨ys, y, s2, hy⟩, fun x H3 ⟨e3, ex⟩ => ?_⟩
      subst e3
      have h5 := ex ys s2
      rw [hy] at h5
      cases h5
      exact ⟨F2, g2, ef2.push wy⟩
    · obtain ⟨F2, ys, ef2, g2, s2, r2⟩ := again a ro2 ka2 ta2 sg2 H2 hs (hm _ List.mem_cons_self) e2
      refine ⟨ys, s2, ?_⟩
      rw [rpl_len r2]
      rwa [List.length_map] at hi
  | false =>
    refine .inl (h B F0 ta sg H _ e fun v H1 e1 => ?_)
    obtain ⟨F, g, ef⟩ := id e1
    obtain ⟨a, xs, rfl, s1, r1⟩ := l.get ef (ef.tm _ List.mem_cons_self)
    refine ⟨a, rfl, ⟨xs, .inl s1⟩, q _ ((.ref a, w) :: ta) H1 (fun p hp => List.mem_cons_of_mem _ hp) e1 (fun i w2 ro2 ka2 ta2 sg2 H2 hw hs hm e2 => ?_) fun i ro2 ka2 ta2 sg2 H2 hi hs hm e2 => ?_⟩
    · obtain ⟨F2, ys, ef2, g2, s2, r2⟩ := again a ro2 ka2 ta2 sg2 H2 hs (hm _ List.mem_cons_self) e2
      obtain ⟨y, hy, wy⟩ := item hw r2
      refine ⟨⟨ys, y, .inl s2, hy⟩, fun x H3 ⟨e3, ex⟩ => ?_⟩
      subst e3
      have h5 := ex ys (.inl s2)
      rw [hy] at h5
      cases h5
      exact ⟨F2, g2, ef2.push wy⟩
    · obtain ⟨F2, ys, ef2, g2, s2, r2⟩ := again a ro2 ka2 ta2 sg2 H2 hs (hm _ List.mem_cons_self) e2
      refine ⟨ys, .inl s2, ?_⟩
      rw [rpl_len r2]
      rwa [List.length_map] at hi
theorem ei_str {s : Str} (h : EvD K te ro ka (.val (.str s)) k1) : EvI K (iSeq K te) ro ka (s.cps.toList.map fun c => W.val (.str ⟨#[c]⟩)) (fun _ => True) k1 := fun B F0 ta sg H R e q =>
  .inr (.inr (h B F0 ta sg H _ e fun v H1 e1 => by
    have hv := e1.tm_str List.mem_cons_self
    subst hv
    refine ⟨s, rfl, q _ ta H1 (fun p hp => hp) e1.pop (fun i w2 ro2 ka2 ta2 sg2 H2 hw _ hm e2 => ?_) fun i ro2 ka2 ta2 sg2 H2 hi _ hm e2 => ?_⟩
    · rw [List.getElem?_map] at hw
      cases hd : s.cps.toList[i]? with
      | none => rw [hd] at hw; cases hw
      | some c =>
        rw [hd] at hw
        cases hw
        have hc : s.cps[i]? = some c := by simpa using hd
        refine ⟨(Array.getElem?_eq_some_iff.mp hc).1, fun x H3 ⟨e3, c', hc', ex⟩ => ?_⟩
        subst e3 ex
        rw [hc] at hc'
        cases hc'
        exact e2.push_imm fun _ => rfl
    · show s.cps.size ≤ i
      simpa using hi))
end
end DL

/-! DT: frames, calls, comprehensions by data (own work). -/
namespace DL
open PySem L2

section
variable {K : PySem.W.Frag} {B B' F F' F0 : Hp} {ro : Ro} {ka k1 k2 k3 kr : Cells} {ta : List (V × W)} {sg : L2.St} {H H' : Hp} {te tf tg : TE} {tl th : TO} {tr : TA} {tt : TT} {w x y z : W} {n : Nd}

/-- H without the cells of kf -/
def off (H : Hp) (kf : Cells) : Hp := fun a => if a ∈ kf.map (·.1) then none else H a
theorem off_in {kf : Cells} {a : Addr} (h : a ∈ kf.map (·.1)) : off H kf a = none := if_pos h
theorem off_out {kf : Cells} {a : Addr} (h : a ∉ kf.map (·.1)) : off H kf a = H a := if_neg h
theorem off_some {kf : Cells} {a : Addr} {o : HO} (h : off H kf a = some o) : a ∉ kf.map (·.1) ∧ H a = some o := by
  unfold off at h
  split at h
  · cases h
  · rename_i q
    exact ⟨q, h⟩
theorem EnF.sub_off (e : EnF K B F ro ka ta sg H) {kf : Cells} (hk : ∀ p ∈ kf, p ∈ ka) : Sub B (off H kf) := fun a o h => by
  have na : a ∉ kf.map (·.1) := fun hm => by
    obtain ⟨p, hp, rfl⟩ := List.mem_map.mp hm
    have := (e.ce p (hk p hp)).2.1
    rw [this] at h
    cases h
  rw [off_out na]
  exact e.fr a o h
theorem uni_subB {B B' F : Hp} (h : Sub B B') : Sub (uni B F) (uni B' F) := fun a u q => by
  unfold uni at q ⊢
  cases hf : F a with
  | some o => rw [hf] at q; exact q
  | none =>
    rw [hf] at q
    cases hb : B a with
    | none => rw [hb] at q; cases q
    | some o => rw [hb] at q; rw [h a o hb]; exact q
theorem wok_subB (n : Nz F) (h : Sub B B') {v : V} {w : W} (q : WOk K B F v w) : WOk K B' F v w := by
  cases w with
  | val d => exact q
  | vw d => exact Rp.mono (uni_subB h).exz (uni_nz n) d v q
/-- the part of a state that a part of the text works on: the cells kf, all else as it stands -/
theorem EnF.into (e : EnF K B F ro (ka ++ kr) ta sg H) {ro' : Ro} {sg' : L2.St} {ta' : List (V × W)} (hl : sg'.length = ro'.length) (hs : ∀ (i : Nat) w, ro'[i]? = some (some w) → ∃ v, sg'[i]? = some (some v) ∧ WOk K B F v w) (ht : ∀ p ∈ ta', p ∈ ta) :
    EnF K (off H ka) F ro' ka ta' sg' H := by
  have hsub : Sub B (off H ka) := e.sub_off fun p hp => List.mem_append_left _ hp
  have nd := e.nd
  rw [List.map_append, List.nodup_append] at nd
  refine ⟨e.nz, e.fz, fun a o h => (off_some h).2, nd.1, fun p hp => ?_, hl, fun i w h => ?_, fun p hp => wok_subB e.nz hsub (e.tm p (ht p hp))⟩
  · obtain ⟨h1, h2, h3⟩ := e.ce p (List.mem_append_left _ hp)
    exact ⟨h1, off_in (List.mem_map.mpr ⟨p, hp, rfl⟩), h3⟩
  · obtain ⟨v, h1, h2⟩ := hs i w h
    exact ⟨v, h1, wok_subB e.nz hsub h2⟩
/-- .. and back -/
theorem EnF.back (e : EnF K B F ro (ka ++ kr) ta sg H) (g : Gr (off H ka) F F') {ro' : Ro} {sg' : L2.St} {ta' : List (V × W)} (e' : EnF K (off H ka) F' ro' k2 ta' sg' H') {tb : List (V × W)} (hb : ∀ p ∈ tb, p ∈ ta ∨ ∃ d, p.2 = .val d ∧ p ∈ ta') :
    Gr B F F' ∧ EnF K B F' ro (k2 ++ kr) tb sg H' := by
  have hsub : Sub B (off H ka) := e.sub_off fun p hp => List.mem_append_left _ hp
  have gg : Gr B F F' := ⟨g.sub, fun a h1 h2 => g.off a h1 fun q => by
    cases hb2 : B a with
    | none => exact h2 hb2
    | some o => rw [hsub a o hb2] at q; cases q⟩
  have nd := e.nd
  rw [List.map_append, List.nodup_append] at nd
  -- the cells that were left stand off what was worked on
  have left : ∀ p ∈ kr, off H ka p.1 ≠ none ∧ H' p.1 = H p.1 := fun p hp => by
    obtain ⟨h1, h2, h3⟩ := e.ce p (List.mem_append_right _ hp)
    have hn : p.1 ∉ ka.map (·.1) := fun hm => nd.2.2 _ hm _ (List.mem_map.mpr ⟨p, hp, rfl⟩) rfl
    cases q : H p.1 with
    | none => exact absurd q (ndok_ne h3)
    | some o =>
      have ho : off H ka p.1 = some o := by rw [off_out hn]; exact q
      exact ⟨by rw [ho]; exact fun z => (by cases z), e'.fr _ _ ho⟩
  refine ⟨gg, e'.nz, e'.fz, hsub.trans e'.fr, ?_, fun p hp => ?_, e.ln, fun i w h => ?_, fun p hp => ?_⟩
  · rw [List.map_append, List.nodup_append]
    refine ⟨e'.nd, nd.2.1, fun a ha b hb => ?_⟩
    obtain ⟨p, hp, rfl⟩ := List.mem_map.mp ha
    obtain ⟨q, hq, rfl⟩ := List.mem_map.mp hb
    intro z
    exact (left q hq).1 (z ▸ (e'.ce p hp).2.1)
  · rcases List.mem_append.mp hp with hp | hp
    · obtain ⟨h1, h2, h3⟩ := e'.ce p hp
      refine ⟨h1, ?_, h3⟩
      cases q : B p.1 with
      | none => rfl
      | some o => rw [hsub _ _ q] at h2; cases h2
    · obtain ⟨h1, h2, h3⟩ := e.ce p (List.mem_append_right _ hp)
      obtain ⟨l1, l2⟩ := left p hp
      exact ⟨g.off _ h1 l1, h2, ndok_at l2 (ndok_gr e.nz gg h3)⟩
  · obtain ⟨v, h1, h2⟩ := e.sl i w h
    exact ⟨v, h1, wok_gr e.nz gg h2⟩
  · rcases hb p hp with q | ⟨d, hd, q⟩
    · exact wok_gr e.nz gg (e.tm p q)
    · have h2 := e'.tm p q
      rw [hd] at h2 ⊢
      exact h2

/-! ### frames -/
theorem EvD.fr {d : D} (h : EvD K te ro ka (.val d) k2) (kr : Cells) : EvD K te ro (ka ++ kr) (.val d) (k2 ++ kr) := fun B F0 ta sg H Q e q => by
  obtain ⟨F, g, e⟩ := e
  refine h (off H ka) F ta sg H Q ⟨F, Gr.refl _ _, e.into e.ln e.sl fun p hp => hp⟩ fun v H' ⟨F', g', e'⟩ => ?_
  obtain ⟨g2, e2⟩ := e.back g' e' (tb := (v, .val d) :: ta) fun p hp => by
    rcases List.mem_cons.mp hp with rfl | hp
    · exact .inr ⟨d, rfl, List.mem_cons_self⟩
    · exact .inl hp
  exact q v H' ⟨F', g.trans g2, e2⟩
theorem EvT.fr {b : Bool} (h : EvT K tt ro ka b k2) (kr : Cells) : EvT K tt ro (ka ++ kr) b (k2 ++ kr) := fun B F0 ta sg H Q e q => by
  obtain ⟨F, g, e⟩ := e
  refine h (off H ka) F ta sg H Q ⟨F, Gr.refl _ _, e.into e.ln e.sl fun p hp => hp⟩ fun H' ⟨F', g', e'⟩ => ?_
  obtain ⟨g2, e2⟩ := e.back g' e' (tb := ta) fun p hp => .inl hp
  exact q H' ⟨F', g.trans g2, e2⟩
theorem En.perm (e : En K B F0 ro ka ta sg H) (h : k1.Perm ka) : En K B F0 ro k1 ta sg H :=
  let ⟨F, g, q⟩ := e
  ⟨F, g, q.perm h⟩
theorem EvN.fr {m : Nd} (h : EvN K te ro ka m k2) (kr : Cells) : EvN K te ro (ka ++ kr) m (k2 ++ kr) := fun B F0 ta sg H Q e q => by
  obtain ⟨F, g, e⟩ := e
  refine h (off H ka) F ta sg H Q ⟨F, Gr.refl _ _, e.into e.ln e.sl fun p hp => hp⟩ fun a H' ⟨F', g', e'⟩ => ?_
  obtain ⟨g2, e2⟩ := e.back g' e' (tb := ta) fun p hp => .inl hp
  refine q a H' ⟨F', g.trans g2, e2.perm ?_⟩
  rw [List.append_assoc, List.append_assoc]
  exact List.Perm.append_left _ List.perm_append_comm

/-! ### calls -/
/-- a call that comes back -/
theorem sp_ret {C : Ct} {ws : List W} {out : Out → Cells → Prop} {vs : List V} {E : XK} {Q : VK} {d : D} (e : En K B F0 ro (ka ++ kr) (vs.zip ws ++ ta) sg H) (hl : vs.length = ws.length) (hC : C ws ka out) (ho : ∀ o k, out o k → o = .ret d ∧ k = k2)
    (q : ∀ v H', En K B F0 ro (k2 ++ kr) ((v, .val d) :: ta) sg H' → Q v H') : spC K C vs H Q E := by
  obtain ⟨F, g, e⟩ := e
  refine ⟨off H ka, F, ws, ka, out, hC, hl, ⟨F, Gr.refl _ _, e.into (ro' := []) (sg' := []) (ta' := vs.zip ws) rfl (fun i w h => by simp at h) fun p hp => List.mem_append_left _ hp⟩, fun d' k v H' o ⟨F', g', e'⟩ => ?_, fun C fs k dx H' o _ => ?_, fun C k H' o _ => ?_⟩
  · obtain ⟨hd, rfl⟩ := ho _ _ o
    cases hd
    obtain ⟨g2, e2⟩ := e.back g' e' (tb := (v, .val d) :: ta) fun p hp => by
      rcases List.mem_cons.mp hp with rfl | hp
      · exact .inr ⟨d, rfl, List.mem_cons_self⟩
      · exact .inl (List.mem_append_right _ hp)
    exact q v H' ⟨F', g.trans g2, e2⟩
  · have := (ho _ _ o).1
    cases this
  · have := (ho _ _ o).1
    cases this
theorem ev_call {C : Ct} {ws : List W} {out : Out → Cells → Prop} {E : XK} {d : D} (ha : EvA K tr ro ka ws k1) (hC : C ws k1 out) (ho : ∀ o k, out o k → o = .ret d ∧ k = k2) : EvD K (tCall (spC K C) [] E tr) ro ka (.val d) k2 := fun B F0 ta sg H Q e q =>
  ha B F0 ta sg H _ e fun vs H1 hl e1 => by
    rw [List.append_nil]
    have e1' : En K B F0 ro (k1 ++ []) (vs.zip ws ++ ta) sg H1 := by rw [List.append_nil]; exact e1
    exact sp_ret e1' hl hC ho fun v H' e2 => q v H' (by rw [List.append_nil] at e2; exact e2)
/-- .. the cells that it works on ahead of others -/
theorem ev_callF {C : Ct} {ws : List W} {out : Out → Cells → Prop} {E : XK} {d : D} (kr : Cells) (ha : EvA K tr ro ka ws (k1 ++ kr)) (hC : C ws k1 out) (ho : ∀ o k, out o k → o = .ret d ∧ k = k2) : EvD K (tCall (spC K C) [] E tr) ro ka (.val d) (k2 ++ kr) := fun B F0 ta sg H Q e q =>
  ha B F0 ta sg H _ e fun vs H1 hl e1 => by
    rw [List.append_nil]
    exact sp_ret e1 hl hC ho q
/-- a contract that asks no cells and always comes back: what it hands back -/
def pure1 (f : List W → D → Prop) : Ct := fun ws ka out => ∃ d, f ws d ∧ ka = [] ∧ out = fun o k => o = .ret d ∧ k = []
theorem ev_pure {f : List W → D → Prop} {ws : List W} {E : XK} {d : D} (ha : EvA K tr ro ka ws k1) (h : f ws d) : EvD K (tCall (spC K (pure1 f)) [] E tr) ro ka (.val d) k1 := fun B F0 ta sg H Q e q =>
  ha B F0 ta sg H _ e fun vs H1 hl e1 => by
    rw [List.append_nil]
    exact sp_ret (ka := []) (k2 := []) (kr := k1) e1 hl ⟨d, h, rfl, rfl⟩ (fun o k h => h) q

/-! ### comprehensions -/
def wipeR (ro : Ro) : List Nat → Ro
  | [] => ro
  | v :: vs => (wipeR ro vs).set v none
theorem wipe_en : ∀ {vs : List Nat}, EnF K B F ro ka ta sg H → EnF K B F (wipeR ro vs) ka ta (wipe sg vs) H
  | [], e => e
  | v :: vs, e => by
    have e1 := wipe_en (vs := vs) e
    refine e1.frame (by show (List.set _ _ _).length = (List.set _ _ _).length; rw [List.length_set, List.length_set, e1.ln]) fun i w h => ?_
    show ∃ v', ((wipe sg vs).set v none)[i]? = some (some v') ∧ _
    have h' : ((wipeR ro vs).set v none)[i]? = some (some w) := h
    by_cases hi : v = i
    · subst hi
      have hlt : v < (wipeR ro vs).length := by
        have := (List.getElem?_eq_some_iff.mp h').1
        rwa [List.length_set] at this
      rw [List.getElem?_set_self hlt] at h'
      cases h'
    · rw [List.getElem?_set_ne hi] at h' ⊢
      exact e1.sl i w h'
theorem wipe_set (sg : L2.St) (vs : List Nat) {j : Nat} (hj : j ∈ vs) (v : V) : wipe ((wipe sg vs).set j (some v)) vs = wipe sg vs := by
  have key : ∀ (vs : List Nat) (s t : L2.St), s.length = t.length → (∀ i : Nat, i ∉ vs → s[i]? = t[i]?) → wipe s vs = wipe t vs := by
    intro vs
    induction vs with
    | nil =>
      intro s t hl h
      exact List.ext_getElem? fun i => h i (by simp)
    | cons a vs ih =>
      intro s t hl h
      show (wipe s vs).set a none = (wipe t vs).set a none
      apply List.ext_getElem?
      intro i
      by_cases hi : a = i
      · subst hi
        rw [List.getElem?_set, List.getElem?_set, wipe_length, wipe_length, hl, if_pos rfl, if_pos rfl]
      · rw [List.getElem?_set_ne hi, List.getElem?_set_ne hi]
        have gen : ∀ (vs : List Nat) (s t : L2.St), s.length = t.length → ∀ i : Nat, s[i]? = t[i]? → (wipe s vs)[i]? = (wipe t vs)[i]? := by
          intro vs
          induction vs with
          | nil => intro s t _ i h; exact h
          | cons b vs ih2 =>
            intro s t hl i h
            show ((wipe s vs).set b none)[i]? = ((wipe t vs).set b none)[i]?
            rw [List.getElem?_set, List.getElem?_set, wipe_length, wipe_length, hl, ih2 s t hl i h]
        by_cases hv : i ∈ vs
        · have wn : ∀ (vs : List Nat) (s : L2.St) (i : Nat), i ∈ vs → i < s.length → (wipe s vs)[i]? = some none := by
            intro vs
            induction vs with
            | nil => intro s i h; simp at h
            | cons b vs ih2 =>
              intro s i h hlt
              show ((wipe s vs).set b none)[i]? = some none
              by_cases hb : b = i
              · subst hb
                rw [List.getElem?_set_self (by rw [wipe_length]; exact hlt)]
              · rw [List.getElem?_set_ne hb]
                rcases List.mem_cons.mp h with q | q
                · exact absurd q.symm hb
                · exact ih2 s i q hlt
          by_cases hlt : i < s.length
          · rw [wn vs s i hv hlt, wn vs t i hv (hl ▸ hlt)]
          · rw [List.getElem?_eq_none (by rw [wipe_length]; omega), List.getElem?_eq_none (by rw [wipe_length]; omega)]
        · exact gen vs s t hl i (h i (by simp [Ne.symm hi, hv]))
  have idem : ∀ (vs : List Nat) (s : L2.St), wipe (wipe s vs) vs = wipe s vs := fun vs s => key vs _ _ (wipe_length _ _) fun i hi => by
    have gen : ∀ (us : List Nat) (s : L2.St), i ∉ us → (wipe s us)[i]? = s[i]? := by
      intro us
      induction us with
      | nil => intro s _; rfl
      | cons b us ih2 =>
        intro s h
        show ((wipe s us).set b none)[i]? = s[i]?
        rw [List.getElem?_set_ne (fun q => h (by simp [q])), ih2 s fun q => h (List.mem_cons_of_mem _ q)]
    exact gen vs s hi
  have e1 : wipe ((wipe sg vs).set j (some v)) vs = wipe (wipe sg vs) vs := key vs _ _ (by rw [List.length_set]) fun i hi => by
    have hne : j ≠ i := fun q => hi (q ▸ hj)
    exact List.getElem?_set_ne hne
  rw [e1, idem]
/-- a new cell of which R tells -/
def EvNR (K : PySem.W.Frag) (te : TE) (ro : Ro) (ka : Cells) (R : Nd → Cells → Prop) : Prop := ∀ B F0 ta sg H (Q : VK), En K B F0 ro ka ta sg H → (∀ n k a H', R n k → En K B F0 ro (k ++ [(a, n)]) ta sg H' → Q (.ref a) H') → te sg H Q
/-- [e for x in .. if ..]: what is told of the list -/
theorem evr_lc {wi : TI} {ws : List W} {C : Cells → Prop} {j : Nat} {vs : List Nat} (h : EvI K wi ro ka ws C k1) (hj : j ∈ vs) (hn : ws.length ≤ 1000000) (Inv : Nat → List D → Cells → Prop) (h0 : Inv 0 [] k1) (hC : ∀ i acc k, Inv i acc k → C k ∧ ∀ x, C (k ++ [x]))
    (hs : ∀ i w acc k, ws[i]? = some w → Inv i acc k → (∃ k2, EvT K tt ((wipeR ro vs).set j (some w)) k false k2 ∧ Inv (i + 1) acc k2) ∨ ∃ k2 k3 d, EvT K tt ((wipeR ro vs).set j (some w)) k true k2 ∧ EvD K te ((wipeR ro vs).set j (some w)) k2 (.val d) k3 ∧ Inv (i + 1) (acc ++ [d]) k3)
    : EvNR K (tLc wi (gName j) tt te vs) ro ka (fun n k => ∃ acc, n = .lst acc ∧ Inv ws.length acc k) := fun B F0 ta sg H Q e q =>
  h B F0 ta sg H _ e fun J ta' H1 hta e1 hgo hst => fun Dl hD => by
    -- the word: the list so far is the last cell
    let P : Nat → Hp → Prop := fun i H => ∃ acc k, Inv i acc k ∧ acc.length ≤ i ∧ En K B F0 ro (k ++ [(Dl, .lst acc)]) ta' sg H
    have p0 : P 0 (upd H1 Dl (.lst [])) := by
      obtain ⟨F, g, e1⟩ := e1
      exact ⟨[], k1, h0, Nat.le_refl _, F, g, e1.cell (o := .lst []) hD (n := .lst []) ⟨[], upd_same, rfl⟩⟩
    refine ⟨fun i m H => m = ws.length - i ∧ i ≤ ws.length ∧ P i H, ⟨ws.length, by simp, Nat.zero_le _, p0⟩, ?_⟩
    rintro i m H2 ⟨rfl, hi, acc, k, inv, hlen, e2⟩
    by_cases hlt : i < ws.length
    · have hw := List.getElem?_eq_getElem hlt
      obtain ⟨g1, g2⟩ := hgo i ws[i] ro (k ++ [(Dl, .lst acc)]) ta' sg H2 hw ((hC i acc k inv).2 _) (fun p hp => hp) e2
      refine .inr ⟨g1, P (i + 1), fun H' p => ⟨ws.length - (i + 1), by omega, rfl, hlt, p⟩, fun x H3 y => ?_⟩
      have e3 := g2 x H3 y
      refine ⟨wipe_set sg vs hj x, ?_⟩
      -- within the block
      have e4 : En K B F0 ((wipeR ro vs).set j (some ws[i])) (k ++ [(Dl, .lst acc)]) ta' ((wipe sg vs).set j (some x)) H3 := by
        obtain ⟨F, g, e3⟩ := e3
        exact ⟨F, g, ((wipe_en (vs := vs) e3).set (e3.tm _ List.mem_cons_self) j).held fun p hp => List.mem_cons_of_mem _ hp⟩
      -- and back out of it
      have out : ∀ {k : Cells} {ta2 : List (V × W)} {H : Hp}, (∃ F, Gr B F0 F ∧ EnF K B F ((wipeR ro vs).set j (some ws[i])) k ta2 ((wipe sg vs).set j (some x)) H ∧ ∀ (a : Nat) w, ro[a]? = some (some w) → ∃ v, sg[a]? = some (some v) ∧ WOk K B F v w) → En K B F0 ro k ta2 sg H := fun ⟨F, g, q, hs⟩ => ⟨F, g, q.frame (by obtain ⟨_, _, e0⟩ := e; exact e0.ln) hs⟩
      obtain ⟨F3, gF3, eF3⟩ := e3
      have slots : ∀ {F : Hp}, Gr B F3 F → ∀ (a : Nat) w, ro[a]? = some (some w) → ∃ v, sg[a]? = some (some v) ∧ WOk K B F v w := fun {F} g a w ha => by
        obtain ⟨v, h1, h2⟩ := eF3.sl a w ha
        exact ⟨v, h1, wok_gr eF3.nz g h2⟩
      have e4' : En K B F3 ((wipeR ro vs).set j (some ws[i])) (k ++ [(Dl, .lst acc)]) ta' ((wipe sg vs).set j (some x)) H3 :=
        ⟨F3, Gr.refl _ _, ((wipe_en (vs := vs) eF3).set (eF3.tm _ List.mem_cons_self) j).held fun p hp => List.mem_cons_of_mem _ hp⟩
      rcases hs i ws[i] acc k hw inv with ⟨k2, t1, inv2⟩ | ⟨k2, k3, d, t1, t2, inv2⟩
      · refine t1.fr [(Dl, .lst acc)] B F3 ta' _ H3 _ e4' fun H4 ⟨F4, g4, e5⟩ => ?_
        exact ⟨acc, k2, inv2, Nat.le_succ_of_le hlen, out ⟨F4, gF3.trans g4, e5, slots g4⟩⟩
      · refine t1.fr [(Dl, .lst acc)] B F3 ta' _ H3 _ e4' fun H4 e5 => ?_
        refine t2.fr [(Dl, .lst acc)] B F3 ta' _ H4 _ e5 fun v H5 ⟨F5, g5, e6⟩ => ?_
        have hx : (k3 ++ [(Dl, Nd.lst acc)])[k3.length]? = some (Dl, Nd.lst acc) := by simp
        obtain ⟨xs, h1, h2⟩ := e6.rd_lst hx
        have hv := e6.tm _ List.mem_cons_self
        have e7 := e6.write (o := .lst (xs ++ [v])) (n' := .lst (acc ++ [d])) hx ⟨_, upd_same, rpl_app h2 ⟨v, [], rfl, hv, rfl⟩⟩
        have hset : (k3 ++ [(Dl, Nd.lst acc)]).set k3.length (Dl, Nd.lst (acc ++ [d])) = k3 ++ [(Dl, Nd.lst (acc ++ [d]))] := by
          rw [List.set_append_right _ _ (Nat.le_refl _)]
          simp
        rw [hset] at e7
        refine ⟨xs, h1, by rw [rpl_len h2]; exact Nat.lt_of_le_of_lt (Nat.le_trans hlen (Nat.le_trans hi hn)) (by decide), acc ++ [d], k3, inv2, by rw [List.length_append]; exact Nat.succ_le_succ hlen, ?_⟩
        exact out ⟨F5, gF3.trans g5, e7.held fun p hp => List.mem_cons_of_mem _ hp, slots g5⟩
    · have ei : i = ws.length := by omega
      subst ei
      refine .inl ⟨hst _ ro (k ++ [(Dl, .lst acc)]) ta' sg H2 (Nat.le_refl _) ((hC _ acc k inv).2 _) (fun p hp => hp) e2, ?_⟩
      exact q _ _ Dl H2 ⟨acc, rfl, inv⟩ (e2.held hta)
/-- [e for x in .. if ..] -/
theorem evn_lc {wi : TI} {ws : List W} {C : Cells → Prop} {j : Nat} {vs : List Nat} (h : EvI K wi ro ka ws C k1) (hj : j ∈ vs) (hn : ws.length ≤ 1000000) (Inv : Nat → List D → Cells → Prop) (h0 : Inv 0 [] k1) (hC : ∀ i acc k, Inv i acc k → C k ∧ ∀ x, C (k ++ [x]))
    (hs : ∀ i w acc k, ws[i]? = some w → Inv i acc k → (∃ k2, EvT K tt ((wipeR ro vs).set j (some w)) k false k2 ∧ Inv (i + 1) acc k2) ∨ ∃ k2 k3 d, EvT K tt ((wipeR ro vs).set j (some w)) k true k2 ∧ EvD K te ((wipeR ro vs).set j (some w)) k2 (.val d) k3 ∧ Inv (i + 1) (acc ++ [d]) k3)
    {ds : List D} {kz : Cells} (hd : ∀ acc k, Inv ws.length acc k → acc = ds ∧ k = kz) : EvN K (tLc wi (gName j) tt te vs) ro ka (.lst ds) kz := fun B F0 ta sg H Q e q => evr_lc h hj hn Inv h0 hC hs B F0 ta sg H Q e fun n k a H' ⟨acc, hn', inv⟩ e' => by
  subst hn'
  obtain ⟨rfl, rfl⟩ := hd acc k inv
  exact q a H' e'
end
end DL

/-! DE: equality of data (own work). -/
namespace DL
open PySem L2 PySem.SeqAt

mutual
def eqD : D → D → Bool
  | .non, .non => true
  | .bl a, .bl b => a == b
  | .bl a, .int j => (if a then 1 else 0) == j
  | .int i, .bl b => i == (if b then 1 else 0)
  | .int i, .int j => i == j
  | .str x, .str y => x == y
  | .lst xs, .lst ys => eqL xs ys
  | .tup xs, .tup ys => eqL xs ys
  | _, _ => false
def eqL : List D → List D → Bool
  | [], [] => true
  | x :: xs, y :: ys => eqD x y && eqL xs ys
  | _, _ => false
end
/-- plain data: numbers, texts, lists and tuples of these, at most n deep -/
def pl : Nat → D → Bool
  | _, .non => true
  | _, .bl _ => true
  | _, .int _ => true
  | _, .str _ => true
  | n + 1, .lst ds => ds.all (pl n)
  | n + 1, .tup ds => ds.all (pl n)
  | _, _ => false
theorem eqL_len : ∀ {xs ys : List D}, eqL xs ys = true → xs.length = ys.length
  | [], [], _ => rfl
  | [], _ :: _, h => by cases h
  | _ :: _, [], h => by cases h
  | x :: xs, y :: ys, h => by
    have h2 := (Bool.and_eq_true_iff.mp (show (eqD x y && eqL xs ys) = true from h)).2
    rw [List.length_cons, List.length_cons, eqL_len h2]
theorem eqL_ne {xs ys : List D} (h : xs.length ≠ ys.length) : eqL xs ys = false := by
  cases q : eqL xs ys with
  | false => rfl
  | true => exact absurd (eqL_len q) h
/-- equal item by item -/
theorem eqL_all : ∀ (xs ys : List D), xs.length = ys.length → eqL xs ys = (List.range xs.length).all fun j => eqD (xs.getD j .non) (ys.getD j .non)
  | [], [], _ => rfl
  | [], _ :: _, h => by cases h
  | _ :: _, [], h => by cases h
  | x :: xs, y :: ys, h => by
    have ih := eqL_all xs ys (by simpa using h)
    show (eqD x y && eqL xs ys) = _
    rw [ih, List.length_cons, List.range_succ_eq_map, List.all_cons, List.all_map]
    rfl
theorem eqD_refl (n : Nat) : ∀ (d : D), pl n d = true → eqD d d = true := by
  induction n with
  | zero =>
    intro d h
    cases d <;> first | rfl | exact beq_self_eq_true _ | cases h
  | succ n ih =>
    have hl : ∀ ds : List D, ds.all (pl n) = true → eqL ds ds = true := by
      intro ds
      induction ds with
      | nil => intro _; rfl
      | cons d ds ih2 =>
        intro h
        rw [List.all_cons] at h
        obtain ⟨h1, h2⟩ := Bool.and_eq_true_iff.mp h
        show (eqD d d && eqL ds ds) = true
        rw [ih d h1, ih2 h2] <;> rfl
    intro d h
    cases d with
    | lst ds => exact hl ds h
    | tup ds => exact hl ds h
    | _ => first | rfl | exact beq_self_eq_true _ | cases h
section
variable {X : Cx} {pins : List (Addr × Obj)} {sg : L2.St} {H G : Hp} {s : Shared}
/-- the same value, two readings: equal -/
theorem eqD_same (I : Inv X pins sg H s) (fz : Exz G H) (nz : Nz G) (n : Nat) : ∀ (d e : D) (v : V), pl n d = true → pl n e = true → Rp X.K G d v → Rp X.K G e v → eqD d e = true := by
  induction n with
  | zero =>
    intro d e v h1 h2 r1 r2
    cases d <;> first | (exact absurd h1 Bool.false_ne_true) | skip
    all_goals cases e <;> first | (exact absurd h2 Bool.false_ne_true) | skip
    all_goals (have q := Eq.trans (Eq.symm (show v = _ from r1)) (show v = _ from r2); first | rfl | (cases q <;> first | rfl | exact beq_self_eq_true _))
  | succ n ih =>
    have hl : ∀ (ds es : List D) (xs : List V), ds.all (pl n) = true → es.all (pl n) = true → RpL X.K G ds xs → RpL X.K G es xs → eqL ds es = true := by
      intro ds
      induction ds with
      | nil =>
        intro es xs _ _ r1 r2
        cases es with
        | nil => rfl
        | cons e es =>
          obtain ⟨x, ys, hx, _⟩ := r2
          rw [show xs = [] from r1] at hx
          cases hx
      | cons d ds ih2 =>
        intro es xs h1 h2 r1 r2
        obtain ⟨x, ys, rfl, a1, a2⟩ := r1
        cases es with
        | nil => cases (show x :: ys = [] from r2)
        | cons e es =>
          obtain ⟨x', ys', hx, b1, b2⟩ := r2
          cases hx
          rw [List.all_cons] at h1 h2
          obtain ⟨c1, c2⟩ := Bool.and_eq_true_iff.mp h1
          obtain ⟨e1, e2⟩ := Bool.and_eq_true_iff.mp h2
          show (eqD d e && eqL ds es) = true
          rw [ih d e x c1 e1 a1 b1, ih2 es ys c2 e2 a2 b2] <;> rfl
    intro d e v h1 h2 r1 r2
    cases d <;> first | (exact absurd h1 Bool.false_ne_true) | skip
    all_goals cases e <;> first | (exact absurd h2 Bool.false_ne_true) | skip
    case tup.tup ds es =>
      obtain ⟨a, xs, rfl, q1, q2⟩ := r1
      obtain ⟨a', ys, e', p1, p2⟩ := r2
      cases e'
      have hxy := I.tuple_inj (sqT_mono fz nz q1) (sqT_mono fz nz p1)
      subst hxy
      exact hl ds es xs h1 h2 q2 p2
    case lst.lst ds es =>
      obtain ⟨a, xs, rfl, q1, q2⟩ := r1
      obtain ⟨a', ys, e', p1, p2⟩ := r2
      cases e'
      have hxy := I.list_inj (.inl (fz.rd nz q1)) (.inl (fz.rd nz p1))
      subst hxy
      exact hl ds es xs h1 h2 q2 p2
    case tup.lst ds es =>
      obtain ⟨a, xs, rfl, q1, q2⟩ := r1
      obtain ⟨a', ys, e', p1, p2⟩ := r2
      cases e'
      obtain ⟨its, _, t1, _⟩ := I.tuple (sqT_mono fz nz q1)
      obtain ⟨its2, _, t2, _⟩ := I.list (.inl (fz.rd nz p1))
      exact absurd rfl (ne_of_list_tuple t2.isList t1)
    case lst.tup ds es =>
      obtain ⟨a, xs, rfl, q1, q2⟩ := r1
      obtain ⟨a', ys, e', p1, p2⟩ := r2
      cases e'
      obtain ⟨its, _, t1, _⟩ := I.tuple (sqT_mono fz nz p1)
      obtain ⟨its2, _, t2, _⟩ := I.list (.inl (fz.rd nz q1))
      exact absurd rfl (ne_of_list_tuple t2.isList t1)
    all_goals first
      | (obtain ⟨a, xs, rfl, _⟩ := r1; cases (show V.ref a = _ from r2))
      | (obtain ⟨a, xs, rfl, _⟩ := r2; cases (show V.ref a = _ from r1))
      | (have q := Eq.trans (Eq.symm (show v = _ from r1)) (show v = _ from r2); first | rfl | (cases q <;> first | rfl | exact beq_self_eq_true _))
/-- the items' equality, by place -/
theorem items_eq {n : Nat} {A : Around} (ih : ∀ (d e : D) (A : Around) (v w : V) (u u' : Value), pl n d = true → pl n e = true → Rp X.K G d v → Rp X.K G e w → RelV v u → RelV w u' → A.units + n < cLine → EqAt A s u u' (eqD d e))
    {ds es : List D} {xs ys : List V} {its its2 : List Value} (h1 : ds.all (pl n) = true) (h2 : es.all (pl n) = true) (r1 : RpL X.K G ds xs) (r2 : RpL X.K G es ys) (q1 : Vals xs its) (q2 : Vals ys its2) (hu : A.units + (n + 1) < cLine) :
    ∀ j (l1 : j < its.toArray.size) (l2 : j < its2.toArray.size), EqAt A.in1 s its.toArray[j] its2.toArray[j] (eqD (ds.getD j .non) (es.getD j .non)) := fun j l1 l2 => by
  have k1 : j < its.length := by simpa using l1
  have k2 : j < its2.length := by simpa using l2
  have m1 : j < ds.length := by rw [← rpl_len r1, q1.length]; exact k1
  have m2 : j < es.length := by rw [← rpl_len r2, q2.length]; exact k2
  obtain ⟨v, hv, rv⟩ := rpl_get r1 (List.getElem?_eq_getElem m1)
  obtain ⟨w, hw, rw2⟩ := rpl_get r2 (List.getElem?_eq_getElem m2)
  obtain ⟨u, hu1, ru⟩ := q1.get hv
  obtain ⟨u', hu2, ru'⟩ := q2.get hw
  have e1 : its.toArray[j] = u := by
    rw [List.getElem?_eq_getElem k1] at hu1
    simpa using hu1
  have e2 : its2.toArray[j] = u' := by
    rw [List.getElem?_eq_getElem k2] at hu2
    simpa using hu2
  have g1 : ds.getD j .non = ds[j] := by simp [List.getD, List.getElem?_eq_getElem m1]
  have g2 : es.getD j .non = es[j] := by simp [List.getD, List.getElem?_eq_getElem m2]
  rw [e1, e2, g1, g2]
  exact ih _ _ A.in1 v w u u' (List.all_eq_true.mp h1 _ (List.getElem_mem m1)) (List.all_eq_true.mp h2 _ (List.getElem_mem m2)) rv rw2 ru ru' (by show A.units + 1 + n < cLine; omega)
theorem list_flat {A : Around} {a : Addr} {its : Array Value} (h : s.heap.IsList a its) (hu : A.units < cLine) : ∀ {w : V} {u : Value}, RelV w u → flatV w = true → EqAt A s (.ref a) u false ∧ EqAt A s u (.ref a) false
  | .non, u, r, _ => by
    cases r
    exact ⟨EqAt.list_none h hu, EqAt.none_list h hu⟩
  | .bl b, u, r, _ => by
    cases r
    exact ⟨EqAt.list_bool b h hu, EqAt.bool_list b h hu⟩
  | .int i, u, r, _ => by
    obtain ⟨t, rfl⟩ := r
    exact ⟨EqAt.list_int i t h hu, EqAt.int_list i t h hu⟩
  | .str z, u, r, _ => by
    obtain ⟨t, rfl⟩ := r
    exact ⟨EqAt.list_str z t h hu, EqAt.str_list z t h hu⟩
  | .byt _, _, _, f => absurd f Bool.false_ne_true
  | .flt _, _, _, f => absurd f Bool.false_ne_true
  | .ref _, _, _, f => absurd f Bool.false_ne_true
  | .ty _, _, _, f => absurd f Bool.false_ne_true
theorem tup_flat {A : Around} {a : Addr} {its : Array Value} (h : s.heap.IsTuple a its) (hu : A.units < cLine) : ∀ {w : V} {u : Value}, RelV w u → flatV w = true → EqAt A s (.ref a) u false ∧ EqAt A s u (.ref a) false
  | .non, u, r, _ => by
    cases r
    exact ⟨EqAt.tuple_none h hu, EqAt.none_tuple h hu⟩
  | .bl b, u, r, _ => by
    cases r
    exact ⟨EqAt.tuple_bool b h hu, EqAt.bool_tuple b h hu⟩
  | .int i, u, r, _ => by
    obtain ⟨t, rfl⟩ := r
    exact ⟨EqAt.tuple_int i t h hu, EqAt.int_tuple i t h hu⟩
  | .str z, u, r, _ => by
    obtain ⟨t, rfl⟩ := r
    exact ⟨EqAt.tuple_str z t h hu, EqAt.str_tuple z t h hu⟩
  | .byt _, _, _, f => absurd f Bool.false_ne_true
  | .flt _, _, _, f => absurd f Bool.false_ne_true
  | .ref _, _, _, f => absurd f Bool.false_ne_true
  | .ty _, _, _, f => absurd f Bool.false_ne_true
/-- flat data -/
def fl : D → Bool
  | .non => true
  | .bl _ => true
  | .int _ => true
  | .str _ => true
  | _ => false
theorem fl_v : ∀ {d : D} {v : V}, fl d = true → Rp X.K G d v → flatV v = true
  | .non, v, _, h => by rw [show v = _ from h]; rfl
  | .bl _, v, _, h => by rw [show v = _ from h]; rfl
  | .int _, v, _, h => by rw [show v = _ from h]; rfl
  | .str _, v, _, h => by rw [show v = _ from h]; rfl
theorem fl_eq : ∀ {d e : D} {v w : V}, fl d = true → fl e = true → Rp X.K G d v → Rp X.K G e w → eqV v w = eqD d e := by
  intro d e v w h1 h2 r1 r2
  cases d <;> first | (exact absurd h1 Bool.false_ne_true) | skip
  all_goals cases e <;> first | (exact absurd h2 Bool.false_ne_true) | skip
  all_goals (have z1 := (show v = _ from r1); have z2 := (show w = _ from r2); subst z1 z2; rfl)
theorem eqAt_D (I : Inv X pins sg H s) (fz : Exz G H) (nz : Nz G) (n : Nat) : ∀ (d e : D) (A : Around) (v w : V) (u u' : Value), pl n d = true → pl n e = true → Rp X.K G d v → Rp X.K G e w → RelV v u → RelV w u' → A.units + n < cLine → EqAt A s u u' (eqD d e) := by
  have flat : ∀ (A : Around) (d e : D) (v w : V) (u u' : Value), RelV v u → RelV w u' → flatV v = true → flatV w = true → eqV v w = eqD d e → EqAt A s u u' (eqD d e) := fun A d e v w u u' r1 r2 f1 f2 q => q ▸ eqAt_V r1 r2 f1 f2
  induction n with
  | zero =>
    intro d e A v w u u' h1 h2 r1 r2 q1 q2 hu
    cases d <;> first | (exact absurd h1 Bool.false_ne_true) | skip
    all_goals cases e <;> first | (exact absurd h2 Bool.false_ne_true) | skip
    all_goals (have z1 := (show v = _ from r1); have z2 := (show w = _ from r2); subst z1 z2; exact flat A _ _ _ _ _ _ q1 q2 rfl rfl rfl)
  | succ n ih =>
    intro d e A v w u u' h1 h2 r1 r2 q1 q2 hu
    have hu0 : A.units < cLine := by omega
    have lstf : ∀ {ds : List D} {e : D}, Rp X.K G (.lst ds) v → fl e = true → Rp X.K G e w → RelV v u → RelV w u' → EqAt A s u u' false := fun {ds e} r1 f r2 q1 q2 => by
      obtain ⟨a, xs, rfl, a1, a2⟩ := r1
      cases q1
      obtain ⟨its, t1, t2, _⟩ := I.list (.inl (fz.rd nz a1))
      exact (list_flat t2.isList hu0 q2 (fl_v f r2)).1
    have tupf : ∀ {ds : List D} {e : D}, Rp X.K G (.tup ds) v → fl e = true → Rp X.K G e w → RelV v u → RelV w u' → EqAt A s u u' false := fun {ds e} r1 f r2 q1 q2 => by
      obtain ⟨a, xs, rfl, a1, a2⟩ := r1
      cases q1
      obtain ⟨its, t1, t2, _⟩ := I.tuple (sqT_mono fz nz a1)
      exact (tup_flat t2 hu0 q2 (fl_v f r2)).1
    have flst : ∀ {ds : List D} {e : D}, Rp X.K G e v → fl e = true → Rp X.K G (.lst ds) w → RelV v u → RelV w u' → EqAt A s u u' false := fun {ds e} r1 f r2 q1 q2 => by
      obtain ⟨a, xs, rfl, a1, a2⟩ := r2
      cases q2
      obtain ⟨its, t1, t2, _⟩ := I.list (.inl (fz.rd nz a1))
      exact (list_flat t2.isList hu0 q1 (fl_v f r1)).2
    have ftup : ∀ {ds : List D} {e : D}, Rp X.K G e v → fl e = true → Rp X.K G (.tup ds) w → RelV v u → RelV w u' → EqAt A s u u' false := fun {ds e} r1 f r2 q1 q2 => by
      obtain ⟨a, xs, rfl, a1, a2⟩ := r2
      cases q2
      obtain ⟨its, t1, t2, _⟩ := I.tuple (sqT_mono fz nz a1)
      exact (tup_flat t2 hu0 q1 (fl_v f r1)).2
    cases d <;> first | (exact absurd h1 Bool.false_ne_true) | skip
    all_goals cases e <;> first | (exact absurd h2 Bool.false_ne_true) | skip
    case lst.lst ds es =>
      by_cases hab : v = w
      · subst hab
        have hue : u = u' := by
          obtain ⟨a, xs, rfl, _⟩ := r1
          rw [show u = Value.ref a from q1, show u' = Value.ref a from q2]
        subst hue
        rw [eqD_same I fz nz (n + 1) _ _ v h1 h2 r1 r2]
        exact EqAt.same _
      · obtain ⟨a, xs, rfl, a1, a2⟩ := r1
        obtain ⟨b, ys, rfl, b1, b2⟩ := r2
        cases q1
        cases q2
        obtain ⟨its, t1, t2, _⟩ := I.list (.inl (fz.rd nz a1))
        obtain ⟨its2, t3, t4, _⟩ := I.list (.inl (fz.rd nz b1))
        have l1 : its.toArray.size = ds.length := by rw [List.size_toArray, ← t1.length, rpl_len a2]
        have l2 : its2.toArray.size = es.length := by rw [List.size_toArray, ← t3.length, rpl_len b2]
        show EqAt A s _ _ (eqL ds es)
        by_cases hl : ds.length = es.length
        · rw [eqL_all ds es hl, ← l1]
          exact EqAt.of_refs (fun z => hab (by rw [z])) (RcAt.lists t2.isList t4.isList (by omega) hu0 (items_eq ih h1 h2 a2 b2 t1 t3 hu))
        · rw [eqL_ne hl]
          exact EqAt.of_refs (fun z => hab (by rw [z])) (RcAt.lists_lengths t2.isList t4.isList (by simp only [bne_iff_ne]; omega) hu0)
    case tup.tup ds es =>
      by_cases hab : v = w
      · subst hab
        have hue : u = u' := by
          obtain ⟨a, xs, rfl, _⟩ := r1
          rw [show u = Value.ref a from q1, show u' = Value.ref a from q2]
        subst hue
        rw [eqD_same I fz nz (n + 1) _ _ v h1 h2 r1 r2]
        exact EqAt.same _
      · obtain ⟨a, xs, rfl, a1, a2⟩ := r1
        obtain ⟨b, ys, rfl, b1, b2⟩ := r2
        cases q1
        cases q2
        obtain ⟨its, t1, t2, _⟩ := I.tuple (sqT_mono fz nz a1)
        obtain ⟨its2, t3, t4, _⟩ := I.tuple (sqT_mono fz nz b1)
        have l1 : its.toArray.size = ds.length := by rw [List.size_toArray, ← t1.length, rpl_len a2]
        have l2 : its2.toArray.size = es.length := by rw [List.size_toArray, ← t3.length, rpl_len b2]
        have main := RcAt.tuples t2 t4 hu0 (items_eq ih h1 h2 a2 b2 t1 t3 hu)
        have key : ((List.range (min its.toArray.size its2.toArray.size)).all (fun j => eqD (ds.getD j .non) (es.getD j .non)) && its.toArray.size == its2.toArray.size) = eqL ds es := by
          by_cases hl : ds.length = es.length
          · rw [eqL_all ds es hl, l1, l2, hl]
            simp
          · rw [eqL_ne hl, l1, l2]
            simp [hl]
        rw [key] at main
        exact EqAt.of_refs (fun z => hab (by rw [z])) main
    case lst.tup ds es =>
      obtain ⟨a, xs, rfl, a1, a2⟩ := r1
      obtain ⟨b, ys, rfl, b1, b2⟩ := r2
      cases q1
      cases q2
      obtain ⟨its, t1, t2, _⟩ := I.list (.inl (fz.rd nz a1))
      obtain ⟨its2, t3, t4, _⟩ := I.tuple (sqT_mono fz nz b1)
      exact EqAt.list_tuple t2.isList t4 hu0
    case tup.lst ds es =>
      obtain ⟨a, xs, rfl, a1, a2⟩ := r1
      obtain ⟨b, ys, rfl, b1, b2⟩ := r2
      cases q1
      cases q2
      obtain ⟨its, t1, t2, _⟩ := I.tuple (sqT_mono fz nz a1)
      obtain ⟨its2, t3, t4, _⟩ := I.list (.inl (fz.rd nz b1))
      exact EqAt.tuple_list t2 t4.isList hu0
    case lst.non => exact lstf r1 rfl r2 q1 q2
    case lst.bl => exact lstf r1 rfl r2 q1 q2
    case lst.int => exact lstf r1 rfl r2 q1 q2
    case lst.str => exact lstf r1 rfl r2 q1 q2
    case tup.non => exact tupf r1 rfl r2 q1 q2
    case tup.bl => exact tupf r1 rfl r2 q1 q2
    case tup.int => exact tupf r1 rfl r2 q1 q2
    case tup.str => exact tupf r1 rfl r2 q1 q2
    case non.lst => exact flst r1 rfl r2 q1 q2
    case bl.lst => exact flst r1 rfl r2 q1 q2
    case int.lst => exact flst r1 rfl r2 q1 q2
    case str.lst => exact flst r1 rfl r2 q1 q2
    case non.tup => exact ftup r1 rfl r2 q1 q2
    case bl.tup => exact ftup r1 rfl r2 q1 q2
    case int.tup => exact ftup r1 rfl r2 q1 q2
    case str.tup => exact ftup r1 rfl r2 q1 q2
    all_goals (have z1 := (show v = _ from r1); have z2 := (show w = _ from r2); subst z1 z2; exact flat A _ _ _ _ _ _ q1 q2 rfl rfl rfl)
end
end DL

/-! DQ: == and != of data, at the top (printed by gen_eq.py, own work). -/
namespace DL
open PySem L2 PySem.SeqAt
section
variable {X : Cx} {pins : List (Addr × Obj)} {sg : L2.St} {H G : Hp} {s : Shared}

theorem rc_flat {A : Around} : ∀ {v w : V} {u u' : Value}, RelV v u → RelV w u' → flatV v = true → flatV w = true → RcAt A s u u' (eqV v w)
  | .non, .non, u, u', r1, r2, _, _ => by
    cases r1
    cases r2
    exact RcAt.none_none
  | .non, .bl b2, u, u', r1, r2, _, _ => by
    cases r1
    cases r2
    exact RcAt.none_bool b2
  | .non, .int i2, u, u', r1, r2, _, _ => by
    cases r1
    obtain ⟨t2, rfl⟩ := r2
    exact RcAt.none_int i2 t2
  | .non, .str z2, u, u', r1, r2, _, _ => by
    cases r1
    obtain ⟨t2, rfl⟩ := r2
    exact RcAt.none_str z2 t2
  | .bl b1, .non, u, u', r1, r2, _, _ => by
    cases r1
    cases r2
    exact RcAt.bool_none b1
  | .bl b1, .bl b2, u, u', r1, r2, _, _ => by
    cases r1
    cases r2
    exact RcAt.bool_bool b1 b2
  | .bl b1, .int i2, u, u', r1, r2, _, _ => by
    cases r1
    obtain ⟨t2, rfl⟩ := r2
    exact RcAt.bool_int b1 i2 t2
  | .bl b1, .str z2, u, u', r1, r2, _, _ => by
    cases r1
    obtain ⟨t2, rfl⟩ := r2
    exact RcAt.bool_str b1 z2 t2
  | .int i1, .non, u, u', r1, r2, _, _ => by
    obtain ⟨t1, rfl⟩ := r1
    cases r2
    exact RcAt.int_none i1 t1
  | .int i1, .bl b2, u, u', r1, r2, _, _ => by
    obtain ⟨t1, rfl⟩ := r1
    cases r2
    exact RcAt.int_bool i1 t1 b2
  | .int i1, .int i2, u, u', r1, r2, _, _ => by
    obtain ⟨t1, rfl⟩ := r1
    obtain ⟨t2, rfl⟩ := r2
    exact RcAt.int_int i1 t1 i2 t2
  | .int i1, .str z2, u, u', r1, r2, _, _ => by
    obtain ⟨t1, rfl⟩ := r1
    obtain ⟨t2, rfl⟩ := r2
    exact RcAt.int_str i1 t1 z2 t2
  | .str z1, .non, u, u', r1, r2, _, _ => by
    obtain ⟨t1, rfl⟩ := r1
    cases r2
    exact RcAt.str_none z1 t1
  | .str z1, .bl b2, u, u', r1, r2, _, _ => by
    obtain ⟨t1, rfl⟩ := r1
    cases r2
    exact RcAt.str_bool z1 t1 b2
  | .str z1, .int i2, u, u', r1, r2, _, _ => by
    obtain ⟨t1, rfl⟩ := r1
    obtain ⟨t2, rfl⟩ := r2
    exact RcAt.str_int z1 t1 i2 t2
  | .str z1, .str z2, u, u', r1, r2, _, _ => by
    obtain ⟨t1, rfl⟩ := r1
    obtain ⟨t2, rfl⟩ := r2
    exact RcAt.str_str z1 t1 z2 t2
  | .byt _, _, _, _, _, _, f, _ => absurd f Bool.false_ne_true
  | .flt _, _, _, _, _, _, f, _ => absurd f Bool.false_ne_true
  | .ref _, _, _, _, _, _, f, _ => absurd f Bool.false_ne_true
  | .ty _, _, _, _, _, _, f, _ => absurd f Bool.false_ne_true
  | .non, .byt _, _, _, _, _, _, f => absurd f Bool.false_ne_true
  | .bl _, .byt _, _, _, _, _, _, f => absurd f Bool.false_ne_true
  | .int _, .byt _, _, _, _, _, _, f => absurd f Bool.false_ne_true
  | .str _, .byt _, _, _, _, _, _, f => absurd f Bool.false_ne_true
  | .non, .flt _, _, _, _, _, _, f => absurd f Bool.false_ne_true
  | .bl _, .flt _, _, _, _, _, _, f => absurd f Bool.false_ne_true
  | .int _, .flt _, _, _, _, _, _, f => absurd f Bool.false_ne_true
  | .str _, .flt _, _, _, _, _, _, f => absurd f Bool.false_ne_true
  | .non, .ref _, _, _, _, _, _, f => absurd f Bool.false_ne_true
  | .bl _, .ref _, _, _, _, _, _, f => absurd f Bool.false_ne_true
  | .int _, .ref _, _, _, _, _, _, f => absurd f Bool.false_ne_true
  | .str _, .ref _, _, _, _, _, _, f => absurd f Bool.false_ne_true
  | .non, .ty _, _, _, _, _, _, f => absurd f Bool.false_ne_true
  | .bl _, .ty _, _, _, _, _, _, f => absurd f Bool.false_ne_true
  | .int _, .ty _, _, _, _, _, _, f => absurd f Bool.false_ne_true
  | .str _, .ty _, _, _, _, _, _, f => absurd f Bool.false_ne_true
theorem rc_list {A : Around} {a : Addr} {its : Array Value} (h : s.heap.IsList a its) (hu : A.units < cLine) : ∀ {w : V} {u : Value}, RelV w u → flatV w = true → RcAt A s (.ref a) u false ∧ RcAt A s u (.ref a) false
  | .non, u, r, _ => by
    cases r
    exact ⟨RcAt.list_none h hu, RcAt.none_list h hu⟩
  | .bl b2, u, r, _ => by
    cases r
    exact ⟨RcAt.list_bool b2 h hu, RcAt.bool_list b2 h hu⟩
  | .int i2, u, r, _ => by
    obtain ⟨t2, rfl⟩ := r
    exact ⟨RcAt.list_int i2 t2 h hu, RcAt.int_list i2 t2 h hu⟩
  | .str z2, u, r, _ => by
    obtain ⟨t2, rfl⟩ := r
    exact ⟨RcAt.list_str z2 t2 h hu, RcAt.str_list z2 t2 h hu⟩
  | .byt _, _, _, f => absurd f Bool.false_ne_true
  | .flt _, _, _, f => absurd f Bool.false_ne_true
  | .ref _, _, _, f => absurd f Bool.false_ne_true
  | .ty _, _, _, f => absurd f Bool.false_ne_true
theorem rc_tuple {A : Around} {a : Addr} {its : Array Value} (h : s.heap.IsTuple a its) (hu : A.units < cLine) : ∀ {w : V} {u : Value}, RelV w u → flatV w = true → RcAt A s (.ref a) u false ∧ RcAt A s u (.ref a) false
  | .non, u, r, _ => by
    cases r
    exact ⟨RcAt.tuple_none h hu, RcAt.none_tuple h hu⟩
  | .bl b2, u, r, _ => by
    cases r
    exact ⟨RcAt.tuple_bool b2 h hu, RcAt.bool_tuple b2 h hu⟩
  | .int i2, u, r, _ => by
    obtain ⟨t2, rfl⟩ := r
    exact ⟨RcAt.tuple_int i2 t2 h hu, RcAt.int_tuple i2 t2 h hu⟩
  | .str z2, u, r, _ => by
    obtain ⟨t2, rfl⟩ := r
    exact ⟨RcAt.tuple_str z2 t2 h hu, RcAt.str_tuple z2 t2 h hu⟩
  | .byt _, _, _, f => absurd f Bool.false_ne_true
  | .flt _, _, _, f => absurd f Bool.false_ne_true
  | .ref _, _, _, f => absurd f Bool.false_ne_true
  | .ty _, _, _, f => absurd f Bool.false_ne_true
theorem rc_D (I : Inv X pins sg H s) (fz : Exz G H) (nz : Nz G) (n : Nat) (d e : D) (A : Around) (v w : V) (u u' : Value) (h1 : pl (n + 1) d = true) (h2 : pl (n + 1) e = true) (r1 : Rp X.K G d v) (r2 : Rp X.K G e w) (q1 : RelV v u) (q2 : RelV w u') (hu : A.units + (n + 1) < cLine) : RcAt A s u u' (eqD d e) := by
  have hu0 : A.units < cLine := by omega
  have ih := eqAt_D (X := X) I fz nz n
  have lstf : ∀ {ds : List D} {e : D}, Rp X.K G (.lst ds) v → fl e = true → Rp X.K G e w → RcAt A s u u' false := fun {ds e} r1 f r2 => by
    obtain ⟨a, xs, rfl, a1, a2⟩ := r1
    cases q1
    obtain ⟨its, t1, t2, _⟩ := I.list (.inl (fz.rd nz a1))
    exact (rc_list t2.isList hu0 q2 (fl_v f r2)).1
  have tupf : ∀ {ds : List D} {e : D}, Rp X.K G (.tup ds) v → fl e = true → Rp X.K G e w → RcAt A s u u' false := fun {ds e} r1 f r2 => by
    obtain ⟨a, xs, rfl, a1, a2⟩ := r1
    cases q1
    obtain ⟨its, t1, t2, _⟩ := I.tuple (sqT_mono fz nz a1)
    exact (rc_tuple t2 hu0 q2 (fl_v f r2)).1
  have flst : ∀ {ds : List D} {e : D}, Rp X.K G e v → fl e = true → Rp X.K G (.lst ds) w → RcAt A s u u' false := fun {ds e} r1 f r2 => by
    obtain ⟨a, xs, rfl, a1, a2⟩ := r2
    cases q2
    obtain ⟨its, t1, t2, _⟩ := I.list (.inl (fz.rd nz a1))
    exact (rc_list t2.isList hu0 q1 (fl_v f r1)).2
  have ftup : ∀ {ds : List D} {e : D}, Rp X.K G e v → fl e = true → Rp X.K G (.tup ds) w → RcAt A s u u' false := fun {ds e} r1 f r2 => by
    obtain ⟨a, xs, rfl, a1, a2⟩ := r2
    cases q2
    obtain ⟨its, t1, t2, _⟩ := I.tuple (sqT_mono fz nz a1)
    exact (rc_tuple t2 hu0 q1 (fl_v f r1)).2
  have flat : ∀ {d e : D}, fl d = true → fl e = true → Rp X.K G d v → Rp X.K G e w → RcAt A s u u' (eqD d e) := fun {d e} f1 f2 r1 r2 => by
    have z := rc_flat (A := A) (s := s) q1 q2 (fl_v f1 r1) (fl_v f2 r2)
    rw [fl_eq f1 f2 r1 r2] at z
    exact z
  cases d <;> first | (exact absurd h1 Bool.false_ne_true) | skip
  all_goals cases e <;> first | (exact absurd h2 Bool.false_ne_true) | skip
  case lst.lst ds es =>
    obtain ⟨a, xs, rfl, a1, a2⟩ := r1
    obtain ⟨b, ys, rfl, b1, b2⟩ := r2
    cases q1
    cases q2
    obtain ⟨its, t1, t2, _⟩ := I.list (.inl (fz.rd nz a1))
    obtain ⟨its2, t3, t4, _⟩ := I.list (.inl (fz.rd nz b1))
    have l1 : its.toArray.size = ds.length := by rw [List.size_toArray, ← t1.length, rpl_len a2]
    have l2 : its2.toArray.size = es.length := by rw [List.size_toArray, ← t3.length, rpl_len b2]
    show RcAt A s _ _ (eqL ds es)
    by_cases hl : ds.length = es.length
    · rw [eqL_all ds es hl, ← l1]
      exact RcAt.lists t2.isList t4.isList (by omega) hu0 (items_eq ih h1 h2 a2 b2 t1 t3 hu)
    · rw [eqL_ne hl]
      exact RcAt.lists_lengths t2.isList t4.isList (by simp only [bne_iff_ne]; omega) hu0
  case tup.tup ds es =>
    obtain ⟨a, xs, rfl, a1, a2⟩ := r1
    obtain ⟨b, ys, rfl, b1, b2⟩ := r2
    cases q1
    cases q2
    obtain ⟨its, t1, t2, _⟩ := I.tuple (sqT_mono fz nz a1)
    obtain ⟨its2, t3, t4, _⟩ := I.tuple (sqT_mono fz nz b1)
    have l1 : its.toArray.size = ds.length := by rw [List.size_toArray, ← t1.length, rpl_len a2]
    have l2 : its2.toArray.size = es.length := by rw [List.size_toArray, ← t3.length, rpl_len b2]
    have main := RcAt.tuples t2 t4 hu0 (items_eq ih h1 h2 a2 b2 t1 t3 hu)
    have key : ((List.range (min its.toArray.size its2.toArray.size)).all (fun j => eqD (ds.getD j .non) (es.getD j .non)) && its.toArray.size == its2.toArray.size) = eqL ds es := by
      by_cases hl : ds.length = es.length
      · rw [eqL_all ds es hl, l1, l2, hl]
        simp
      · rw [eqL_ne hl, l1, l2]
        simp [hl]
    rw [key] at main
    exact main
  case lst.tup ds es =>
    obtain ⟨a, xs, rfl, a1, a2⟩ := r1
    obtain ⟨b, ys, rfl, b1, b2⟩ := r2
    cases q1
    cases q2
    obtain ⟨its, t1, t2, _⟩ := I.list (.inl (fz.rd nz a1))
    obtain ⟨its2, t3, t4, _⟩ := I.tuple (sqT_mono fz nz b1)
    exact RcAt.list_tuple t2.isList t4 hu0
  case tup.lst ds es =>
    obtain ⟨a, xs, rfl, a1, a2⟩ := r1
    obtain ⟨b, ys, rfl, b1, b2⟩ := r2
    cases q1
    cases q2
    obtain ⟨its, t1, t2, _⟩ := I.tuple (sqT_mono fz nz a1)
    obtain ⟨its2, t3, t4, _⟩ := I.list (.inl (fz.rd nz b1))
    exact RcAt.tuple_list t2 t4.isList hu0
  case lst.non => exact lstf r1 rfl r2
  case tup.non => exact tupf r1 rfl r2
  case non.lst => exact flst r1 rfl r2
  case non.tup => exact ftup r1 rfl r2
  case lst.bl => exact lstf r1 rfl r2
  case tup.bl => exact tupf r1 rfl r2
  case bl.lst => exact flst r1 rfl r2
  case bl.tup => exact ftup r1 rfl r2
  case lst.int => exact lstf r1 rfl r2
  case tup.int => exact tupf r1 rfl r2
  case int.lst => exact flst r1 rfl r2
  case int.tup => exact ftup r1 rfl r2
  case lst.str => exact lstf r1 rfl r2
  case tup.str => exact tupf r1 rfl r2
  case str.lst => exact flst r1 rfl r2
  case str.tup => exact ftup r1 rfl r2
  all_goals exact flat rfl rfl r1 r2
theorem rn_flat {A : Around} : ∀ {v w : V} {u u' : Value}, RelV v u → RelV w u' → flatV v = true → flatV w = true → RcNeAt A s u u' (!eqV v w)
  | .non, .non, u, u', r1, r2, _, _ => by
    cases r1
    cases r2
    exact RcNeAt.none_none
  | .non, .bl b2, u, u', r1, r2, _, _ => by
    cases r1
    cases r2
    exact RcNeAt.none_bool b2
  | .non, .int i2, u, u', r1, r2, _, _ => by
    cases r1
    obtain ⟨t2, rfl⟩ := r2
    exact RcNeAt.none_int i2 t2
  | .non, .str z2, u, u', r1, r2, _, _ => by
    cases r1
    obtain ⟨t2, rfl⟩ := r2
    exact RcNeAt.none_str z2 t2
  | .bl b1, .non, u, u', r1, r2, _, _ => by
    cases r1
    cases r2
    exact RcNeAt.bool_none b1
  | .bl b1, .bl b2, u, u', r1, r2, _, _ => by
    cases r1
    cases r2
    exact RcNeAt.bool_bool b1 b2
  | .bl b1, .int i2, u, u', r1, r2, _, _ => by
    cases r1
    obtain ⟨t2, rfl⟩ := r2
    exact RcNeAt.bool_int b1 i2 t2
  | .bl b1, .str z2, u, u', r1, r2, _, _ => by
    cases r1
    obtain ⟨t2, rfl⟩ := r2
    exact RcNeAt.bool_str b1 z2 t2
  | .int i1, .non, u, u', r1, r2, _, _ => by
    obtain ⟨t1, rfl⟩ := r1
    cases r2
    exact RcNeAt.int_none i1 t1
  | .int i1, .bl b2, u, u', r1, r2, _, _ => by
    obtain ⟨t1, rfl⟩ := r1
    cases r2
    exact RcNeAt.int_bool i1 t1 b2
  | .int i1, .int i2, u, u', r1, r2, _, _ => by
    obtain ⟨t1, rfl⟩ := r1
    obtain ⟨t2, rfl⟩ := r2
    exact RcNeAt.int_int i1 t1 i2 t2
  | .int i1, .str z2, u, u', r1, r2, _, _ => by
    obtain ⟨t1, rfl⟩ := r1
    obtain ⟨t2, rfl⟩ := r2
    exact RcNeAt.int_str i1 t1 z2 t2
  | .str z1, .non, u, u', r1, r2, _, _ => by
    obtain ⟨t1, rfl⟩ := r1
    cases r2
    exact RcNeAt.str_none z1 t1
  | .str z1, .bl b2, u, u', r1, r2, _, _ => by
    obtain ⟨t1, rfl⟩ := r1
    cases r2
    exact RcNeAt.str_bool z1 t1 b2
  | .str z1, .int i2, u, u', r1, r2, _, _ => by
    obtain ⟨t1, rfl⟩ := r1
    obtain ⟨t2, rfl⟩ := r2
    exact RcNeAt.str_int z1 t1 i2 t2
  | .str z1, .str z2, u, u', r1, r2, _, _ => by
    obtain ⟨t1, rfl⟩ := r1
    obtain ⟨t2, rfl⟩ := r2
    exact RcNeAt.str_str z1 t1 z2 t2
  | .byt _, _, _, _, _, _, f, _ => absurd f Bool.false_ne_true
  | .flt _, _, _, _, _, _, f, _ => absurd f Bool.false_ne_true
  | .ref _, _, _, _, _, _, f, _ => absurd f Bool.false_ne_true
  | .ty _, _, _, _, _, _, f, _ => absurd f Bool.false_ne_true
  | .non, .byt _, _, _, _, _, _, f => absurd f Bool.false_ne_true
  | .bl _, .byt _, _, _, _, _, _, f => absurd f Bool.false_ne_true
  | .int _, .byt _, _, _, _, _, _, f => absurd f Bool.false_ne_true
  | .str _, .byt _, _, _, _, _, _, f => absurd f Bool.false_ne_true
  | .non, .flt _, _, _, _, _, _, f => absurd f Bool.false_ne_true
  | .bl _, .flt _, _, _, _, _, _, f => absurd f Bool.false_ne_true
  | .int _, .flt _, _, _, _, _, _, f => absurd f Bool.false_ne_true
  | .str _, .flt _, _, _, _, _, _, f => absurd f Bool.false_ne_true
  | .non, .ref _, _, _, _, _, _, f => absurd f Bool.false_ne_true
  | .bl _, .ref _, _, _, _, _, _, f => absurd f Bool.false_ne_true
  | .int _, .ref _, _, _, _, _, _, f => absurd f Bool.false_ne_true
  | .str _, .ref _, _, _, _, _, _, f => absurd f Bool.false_ne_true
  | .non, .ty _, _, _, _, _, _, f => absurd f Bool.false_ne_true
  | .bl _, .ty _, _, _, _, _, _, f => absurd f Bool.false_ne_true
  | .int _, .ty _, _, _, _, _, _, f => absurd f Bool.false_ne_true
  | .str _, .ty _, _, _, _, _, _, f => absurd f Bool.false_ne_true
theorem rn_list {A : Around} {a : Addr} {its : Array Value} (h : s.heap.IsList a its) (hu : A.units < cLine) : ∀ {w : V} {u : Value}, RelV w u → flatV w = true → RcNeAt A s (.ref a) u true ∧ RcNeAt A s u (.ref a) true
  | .non, u, r, _ => by
    cases r
    exact ⟨RcNeAt.list_none h hu, RcNeAt.none_list h hu⟩
  | .bl b2, u, r, _ => by
    cases r
    exact ⟨RcNeAt.list_bool b2 h hu, RcNeAt.bool_list b2 h hu⟩
  | .int i2, u, r, _ => by
    obtain ⟨t2, rfl⟩ := r
    exact ⟨RcNeAt.list_int i2 t2 h hu, RcNeAt.int_list i2 t2 h hu⟩
  | .str z2, u, r, _ => by
    obtain ⟨t2, rfl⟩ := r
    exact ⟨RcNeAt.list_str z2 t2 h hu, RcNeAt.str_list z2 t2 h hu⟩
  | .byt _, _, _, f => absurd f Bool.false_ne_true
  | .flt _, _, _, f => absurd f Bool.false_ne_true
  | .ref _, _, _, f => absurd f Bool.false_ne_true
  | .ty _, _, _, f => absurd f Bool.false_ne_true
theorem rn_tuple {A : Around} {a : Addr} {its : Array Value} (h : s.heap.IsTuple a its) (hu : A.units < cLine) : ∀ {w : V} {u : Value}, RelV w u → flatV w = true → RcNeAt A s (.ref a) u true ∧ RcNeAt A s u (.ref a) true
  | .non, u, r, _ => by
    cases r
    exact ⟨RcNeAt.tuple_none h hu, RcNeAt.none_tuple h hu⟩
  | .bl b2, u, r, _ => by
    cases r
    exact ⟨RcNeAt.tuple_bool b2 h hu, RcNeAt.bool_tuple b2 h hu⟩
  | .int i2, u, r, _ => by
    obtain ⟨t2, rfl⟩ := r
    exact ⟨RcNeAt.tuple_int i2 t2 h hu, RcNeAt.int_tuple i2 t2 h hu⟩
  | .str z2, u, r, _ => by
    obtain ⟨t2, rfl⟩ := r
    exact ⟨RcNeAt.tuple_str z2 t2 h hu, RcNeAt.str_tuple z2 t2 h hu⟩
  | .byt _, _, _, f => absurd f Bool.false_ne_true
  | .flt _, _, _, f => absurd f Bool.false_ne_true
  | .ref _, _, _, f => absurd f Bool.false_ne_true
  | .ty _, _, _, f => absurd f Bool.false_ne_true
theorem rn_D (I : Inv X pins sg H s) (fz : Exz G H) (nz : Nz G) (n : Nat) (d e : D) (A : Around) (v w : V) (u u' : Value) (h1 : pl (n + 1) d = true) (h2 : pl (n + 1) e = true) (r1 : Rp X.K G d v) (r2 : Rp X.K G e w) (q1 : RelV v u) (q2 : RelV w u') (hu : A.units + (n + 1) < cLine) : RcNeAt A s u u' (!eqD d e) := by
  have hu0 : A.units < cLine := by omega
  have ih := eqAt_D (X := X) I fz nz n
  have lstf : ∀ {ds : List D} {e : D}, Rp X.K G (.lst ds) v → fl e = true → Rp X.K G e w → RcNeAt A s u u' true := fun {ds e} r1 f r2 => by
    obtain ⟨a, xs, rfl, a1, a2⟩ := r1
    cases q1
    obtain ⟨its, t1, t2, _⟩ := I.list (.inl (fz.rd nz a1))
    exact (rn_list t2.isList hu0 q2 (fl_v f r2)).1
  have tupf : ∀ {ds : List D} {e : D}, Rp X.K G (.tup ds) v → fl e = true → Rp X.K G e w → RcNeAt A s u u' true := fun {ds e} r1 f r2 => by
    obtain ⟨a, xs, rfl, a1, a2⟩ := r1
    cases q1
    obtain ⟨its, t1, t2, _⟩ := I.tuple (sqT_mono fz nz a1)
    exact (rn_tuple t2 hu0 q2 (fl_v f r2)).1
  have flst : ∀ {ds : List D} {e : D}, Rp X.K G e v → fl e = true → Rp X.K G (.lst ds) w → RcNeAt A s u u' true := fun {ds e} r1 f r2 => by
    obtain ⟨a, xs, rfl, a1, a2⟩ := r2
    cases q2
    obtain ⟨its, t1, t2, _⟩ := I.list (.inl (fz.rd nz a1))
    exact (rn_list t2.isList hu0 q1 (fl_v f r1)).2
  have ftup : ∀ {ds : List D} {e : D}, Rp X.K G e v → fl e = true → Rp X.K G (.tup ds) w → RcNeAt A s u u' true := fun {ds e} r1 f r2 => by
    obtain ⟨a, xs, rfl, a1, a2⟩ := r2
    cases q2
    obtain ⟨its, t1, t2, _⟩ := I.tuple (sqT_mono fz nz a1)
    exact (rn_tuple t2 hu0 q1 (fl_v f r1)).2
  have flat : ∀ {d e : D}, fl d = true → fl e = true → Rp X.K G d v → Rp X.K G e w → RcNeAt A s u u' (!eqD d e) := fun {d e} f1 f2 r1 r2 => by
    have z := rn_flat (A := A) (s := s) q1 q2 (fl_v f1 r1) (fl_v f2 r2)
    rw [fl_eq f1 f2 r1 r2] at z
    exact z
  cases d <;> first | (exact absurd h1 Bool.false_ne_true) | skip
  all_goals cases e <;> first | (exact absurd h2 Bool.false_ne_true) | skip
  case lst.lst ds es =>
    obtain ⟨a, xs, rfl, a1, a2⟩ := r1
    obtain ⟨b, ys, rfl, b1, b2⟩ := r2
    cases q1
    cases q2
    obtain ⟨its, t1, t2, _⟩ := I.list (.inl (fz.rd nz a1))
    obtain ⟨its2, t3, t4, _⟩ := I.list (.inl (fz.rd nz b1))
    have l1 : its.toArray.size = ds.length := by rw [List.size_toArray, ← t1.length, rpl_len a2]
    have l2 : its2.toArray.size = es.length := by rw [List.size_toArray, ← t3.length, rpl_len b2]
    show RcNeAt A s _ _ (!eqL ds es)
    by_cases hl : ds.length = es.length
    · rw [eqL_all ds es hl, ← l1]
      exact RcNeAt.lists t2.isList t4.isList (by omega) hu0 (items_eq ih h1 h2 a2 b2 t1 t3 hu)
    · rw [eqL_ne hl]
      exact RcNeAt.lists_lengths t2.isList t4.isList (by simp only [bne_iff_ne]; omega) hu0
  case tup.tup ds es =>
    obtain ⟨a, xs, rfl, a1, a2⟩ := r1
    obtain ⟨b, ys, rfl, b1, b2⟩ := r2
    cases q1
    cases q2
    obtain ⟨its, t1, t2, _⟩ := I.tuple (sqT_mono fz nz a1)
    obtain ⟨its2, t3, t4, _⟩ := I.tuple (sqT_mono fz nz b1)
    have l1 : its.toArray.size = ds.length := by rw [List.size_toArray, ← t1.length, rpl_len a2]
    have l2 : its2.toArray.size = es.length := by rw [List.size_toArray, ← t3.length, rpl_len b2]
    have main := RcNeAt.tuples t2 t4 hu0 (items_eq ih h1 h2 a2 b2 t1 t3 hu)
    have key : ((List.range (min its.toArray.size its2.toArray.size)).all (fun j => eqD (ds.getD j .non) (es.getD j .non)) && its.toArray.size == its2.toArray.size) = eqL ds es := by
      by_cases hl : ds.length = es.length
      · rw [eqL_all ds es hl, l1, l2, hl]
        simp
      · rw [eqL_ne hl, l1, l2]
        simp [hl]
    rw [key] at main
    exact main
  case lst.tup ds es =>
    obtain ⟨a, xs, rfl, a1, a2⟩ := r1
    obtain ⟨b, ys, rfl, b1, b2⟩ := r2
    cases q1
    cases q2
    obtain ⟨its, t1, t2, _⟩ := I.list (.inl (fz.rd nz a1))
    obtain ⟨its2, t3, t4, _⟩ := I.tuple (sqT_mono fz nz b1)
    exact RcNeAt.list_tuple t2.isList t4 hu0
  case tup.lst ds es =>
    obtain ⟨a, xs, rfl, a1, a2⟩ := r1
    obtain ⟨b, ys, rfl, b1, b2⟩ := r2
    cases q1
    cases q2
    obtain ⟨its, t1, t2, _⟩ := I.tuple (sqT_mono fz nz a1)
    obtain ⟨its2, t3, t4, _⟩ := I.list (.inl (fz.rd nz b1))
    exact RcNeAt.tuple_list t2 t4.isList hu0
  case lst.non => exact lstf r1 rfl r2
  case tup.non => exact tupf r1 rfl r2
  case non.lst => exact flst r1 rfl r2
  case non.tup => exact ftup r1 rfl r2
  case lst.bl => exact lstf r1 rfl r2
  case tup.bl => exact tupf r1 rfl r2
  case bl.lst => exact flst r1 rfl r2
  case bl.tup => exact ftup r1 rfl r2
  case lst.int => exact lstf r1 rfl r2
  case tup.int => exact tupf r1 rfl r2
  case int.lst => exact flst r1 rfl r2
  case int.tup => exact ftup r1 rfl r2
  case lst.str => exact lstf r1 rfl r2
  case tup.str => exact tupf r1 rfl r2
  case str.lst => exact flst r1 rfl r2
  case str.tup => exact ftup r1 rfl r2
  all_goals exact flat rfl rfl r1 r2
/-- == and != of plain data -/
def rEqP (K : PySem.W.Frag) (neg : Bool) : R2 := fun x y H Q => ∃ (n : Nat) (G : Hp) (d e : D), Exz G H ∧ Nz G ∧ n ≤ 60 ∧ pl (n + 1) d = true ∧ pl (n + 1) e = true ∧ Rp K G d x ∧ Rp K G e y ∧ Q (.bl (if neg then !eqD d e else eqD d e)) H
theorem op_eqP (hu : X.A.units + 64 < cLine) : OpR X (compareOp .Eq) (rEqP X.K false) := by
  intro pins s sg H x y v u Q I rx ry h
  obtain ⟨n, G, d, e, fz, nz, hn, p1, p2, r1, r2, q⟩ := h
  exact rc_D I fz nz n d e X.A x y v u p1 p2 r1 r2 rx ry (by omega) X.prog X.w X.xe _ ⟨.bl _, H, I, rfl, q⟩
theorem op_neP (hu : X.A.units + 64 < cLine) : OpR X (compareOp .NotEq) (rEqP X.K true) := by
  intro pins s sg H x y v u Q I rx ry h
  obtain ⟨n, G, d, e, fz, nz, hn, p1, p2, r1, r2, q⟩ := h
  exact rn_D I fz nz n d e X.A x y v u p1 p2 r1 r2 rx ry (by omega) X.prog X.w X.xe _ ⟨.bl _, H, I, rfl, q⟩
end
/-! ### by data -/
/-- w stands for the plain data d -/
inductive Pk (ka : Cells) : W → D → Prop where
  | v {d} : Pk ka (.val d) d
  | w {d} : Pk ka (.vw d) d
  | c {a ds} (j : Nat) (h : ka[j]? = some (a, .lst ds)) : Pk ka (.val (.adr a)) (.lst ds)
section
variable {K : PySem.W.Frag} {B F F0 : Hp} {ro : Ro} {ka : Cells} {ta : List (V × W)} {sg : L2.St} {H : Hp} {x y : W}
/-- what may be read with the cells' lists beside -/
def gH (H : Hp) : Hp := fun a => match H a with
  | some (.frz _ u) => if lk u then some u else none
  | z => z
theorem gH_nz : Nz (gH H) := fun a u h => by
  unfold gH at h
  split at h
  · split at h
    · rename_i hx
      cases h
      cases u <;> first | rfl | cases hx
    · cases h
  · rename_i z q
    cases u with
    | frz ob z => exact absurd h (q ob z)
    | _ => rfl
theorem gH_exz : Exz (gH H) H := fun a u h => by
  unfold gH at h
  split at h
  · rename_i ob x q
    split at h
    · rename_i hx
      cases h
      exact .inr ⟨hx, ob, q⟩
    · cases h
  · exact .inl h
theorem exz_gH {G : Hp} (e : Exz G H) (n : Nz G) : Exz G (gH H) := fun a u h => by
  refine .inl ?_
  have hu := n a u h
  unfold gH
  rcases e a u h with q | ⟨k, o, q⟩
  · rw [q]
    cases u with
    | frz o z => cases hu
    | _ => rfl
  · rw [q]
    show (if lk u then some u else none) = some u
    rw [k]
    rfl
theorem Pk.get {d : D} {v : V} (l : Pk ka x d) (e : EnF K B F ro ka ta sg H) (h : WOk K B F v x) : Rp K (gH H) d v := by
  cases l with
  | v => exact Rp.mono (exz_gH e.fz e.nz) e.nz d v h
  | w => exact Rp.mono (exz_gH (uni_exz e.fz e.fr) (uni_nz e.nz)) (uni_nz e.nz) d v h
  | @c a ds j hj =>
    obtain ⟨_, _, xs, h1, h2⟩ := e.ce _ (List.mem_of_getElem? hj)
    have hv : v = .ref a := h
    refine ⟨a, xs, hv, .inl ?_, RpL.mono (exz_gH e.fz e.nz) e.nz _ _ h2⟩
    unfold gH
    rw [h1]
theorem rv_eqP {d e : D} (l1 : Pk ka x d) (l2 : Pk ka y e) (p1 : pl 61 d = true) (p2 : pl 61 e = true) : RvD K (rEqP K false) ka x y (.val (.bl (eqD d e))) := fun B F0 ro ta sg H u v Q en h1 h2 q => by
  obtain ⟨F, g, ef⟩ := id en
  exact ⟨60, gH H, d, e, gH_exz, gH_nz, Nat.le_refl _, p1, p2, l1.get ef (ef.tm _ h1), l2.get ef (ef.tm _ h2), q _ _ (en.push_imm fun _ => rfl)⟩
theorem rv_neP {d e : D} (l1 : Pk ka x d) (l2 : Pk ka y e) (p1 : pl 61 d = true) (p2 : pl 61 e = true) : RvD K (rEqP K true) ka x y (.val (.bl (!eqD d e))) := fun B F0 ro ta sg H u v Q en h1 h2 q => by
  obtain ⟨F, g, ef⟩ := id en
  exact ⟨60, gH H, d, e, gH_exz, gH_nz, Nat.le_refl _, p1, p2, l1.get ef (ef.tm _ h1), l2.get ef (ef.tm _ h2), q _ _ (en.push_imm fun _ => rfl)⟩
end
end DL

/-! DO: operators that a class of the text defines (own work). -/
namespace DL
open PySem L2 PySem.W

section
variable {X : Cx} {CX : CXT} {k : Nat} {C f : Addr} {fd : FuncData} {ps : List Str} {sp : Sp} {E : XK}
/-- the same state, seen from other surroundings of the same frames -/
theorem inv_moved {A : Around} {pins : List (Addr × Obj)} {s : Shared} {sg : L2.St} {H : Hp} (I : L2.Inv X pins sg H s) (hd : X.calm = true → A.handled = none) (ha : A.frames = X.A.frames) : L2.Inv { X with A := A } pins sg H s :=
  { I with ok := { I.ok with hd := hd, frames := ha.trans I.ok.frames } }
/-- a def of the text, called within a built-in's work: the library's run_fn in the surroundings moved there -/
theorem run_fn {A : Around} {pins : List (Addr × Obj)} {s : Shared} {sg : L2.St} {H : Hp} {vs : List V} {us : List Value} {Q : VK} (F : FnOk X.prog X.w X.K X.mg X.base CX k f fd ps sp) (hr : Room k A) (ha : A.frames = X.A.frames)
    (hb : Binds X.K fd ps []) (hx : Passes CX X E) (I : L2.Inv X pins sg H s) (rv : Vals vs us) (h : sp vs H Q E) : wpAny (model X.prog X.w) A (call (.ref f) us) (EP X pins sg Q) X.xe s := by
  have home : ∀ {pn : List (Addr × Obj)} {σ : L2.St} {H0 : Hp} {s0 : Shared}, L2.Inv { X with A := A } pn σ H0 s0 → L2.Inv X pn σ H0 s0 := fun J => inv_moved (X := { X with A := A }) (A := X.A) J I.ok.hd ha.symm
  have there := L2.run_fn (X := { X with A := A }) (dvs := []) (ds := []) (vs := vs) (us := us) (Q := Q) (E := E) F hr hb .nil (fun pn σ H0 s0 e s' J c => hx pn σ H0 s0 e s' (home J) c) (inv_moved I (fun _ => hr.hd) ha) rv (by rw [List.append_nil]; exact h)
  exact wpAny_mono there (fun u s2 ⟨v, H', J, r, q⟩ => ⟨v, H', home J, r, q⟩) fun _ _ z => z
/-- where an instance stands, for the library's rules -/
theorem inst_at {pins : List (Addr × Obj)} {s : Shared} {sg : L2.St} {H : Hp} {a dx : Addr} {fs : List (Str × V)} (I : Inv X pins sg H s) (h : H a = some (.ins C dx fs)) : ∃ od, PySem.W.InstAt s.heap a (PySem.W.instObj C dx) C (some od) := by
  obtain ⟨mA, J, _⟩ := ins_get I.hok h
  obtain ⟨od, J2, _⟩ := J.look
  exact ⟨od, J2⟩
/-- the special method m of the class at C is the def at f -/
structure Sm (K : PySem.W.Frag) (C : Addr) (m : Str) (f : Addr) : Prop where
  at_ : findIn K (.ref C) m = some (some (.ref f))
  fn : isFn K (.ref f) = true
abbrev rOwn1 (C : Addr) (sp : Sp) (E : XK) : V → Hp → VK → Prop := fun x H Q => ∃ a dx fs, x = .ref a ∧ H a = some (.ins C dx fs) ∧ sp [x] H Q E
abbrev rOwn2 (C : Addr) (sp : Sp) (E : XK) : R2 := fun x y H Q => ∃ a dx fs, x = .ref a ∧ H a = some (.ins C dx fs) ∧ sp [x, y] H Q E
theorem un_own (m : Sm X.K C "__neg__" f) (F : FnOk X.prog X.w X.K X.mg X.base CX k f fd ps sp) (hr : Room k X.A) (hb : Binds X.K fd ps []) (hx : Passes CX X E) : UnR X (unaryOp .USub) (rOwn1 C sp E) := by
  intro pins s sg H x v Q I rx h
  obtain ⟨a, dx, fs, rfl, ha, h⟩ := h
  cases rx
  obtain ⟨od, J⟩ := inst_at I ha
  obtain ⟨m1, hF⟩ := I.fr
  exact ksp_neg hF I.ok.mod.kin J m.at_ m.fn (run_fn F hr rfl hb hx I (.cons (show RelV (.ref a) (.ref a) from rfl) .nil) h)
/-- o[i] by the class's own __getitem__ -/
theorem pe_ownix {o i : Expr} {pos : Pos} {to ti : TE} (m : Sm X.K C "__getitem__" f) (hf : fnIn X.K f = true) (F : FnOk X.prog X.w X.K X.mg X.base CX k f fd ps sp) (hr : Room (k + 1) X.A) (hb : Binds X.K fd ps []) (hx : Passes CX X E) (ho : PE X o to) (hi : PE X i ti)
    (hs : ∀ a u, subscripted i true (.ref a) u = runValue (.builtin "lifetime.subscript" ⟨[.ref a, u], []⟩) := by intro a u; with_unfolding_all rfl) : PE X (.Subscript o i pos) (tOp (rOwn2 C sp E) to ti) := by
  refine ⟨fun pins s sg H Q I h => ?_⟩
  refine PyProof.Rows.Subscript_ (bin ho hi I h fun v u s2 x y H2 I2 rx ry q => ?_)
  obtain ⟨a, dx, fs, rfl, ha, q⟩ := q
  cases rx
  obtain ⟨od, J⟩ := inst_at I2 ha
  obtain ⟨m1, hF⟩ := I2.fr
  exact sub_K hF I2.ok.mod.kin J m.at_ hf m.fn (run_fn F hr.in1 rfl hb hx I2 (.cons (show RelV (.ref a) (.ref a) from rfl) (.cons ry .nil)) q) (hs a u)
theorem len_own (m : Sm X.K C "__len__" f) (F : FnOk X.prog X.w X.K X.mg X.base CX k f fd ps sp) (hr : Room (k + 1) X.A) (hb : Binds X.K fd ps []) (hx : Passes CX X E) :
    CallR X (.builtin "len") (fun xs H Q => ∃ a dx fs, xs = [.ref a] ∧ H a = some (.ins C dx fs) ∧ sp xs H (fun v H' => ∃ n : Nat, v = .int n ∧ n ≤ 100000 ∧ Q v H') E) := by
  intro pins s sg H xs us Q I rv h
  obtain ⟨a, dx, fs, rfl, ha, h⟩ := h
  cases rv with
  | cons r1 r2 =>
  cases r2
  cases r1
  obtain ⟨od, J⟩ := inst_at I ha
  obtain ⟨m1, hF⟩ := I.fr
  refine len_K hF I.ok.mod.kin J m.at_ m.fn (wpAny_mono (run_fn F hr.in1 rfl hb hx I (.cons (show RelV (.ref a) (.ref a) from rfl) .nil) h) (fun u s' hq => ?_) fun _ _ z => z)
  obtain ⟨v, H', I', r, n, rfl, hn, q⟩ := hq
  obtain ⟨t, rfl⟩ := r
  exact ⟨⟨by omega, by omega⟩, .int n, H', I'.tok _, ⟨_, rfl⟩, q⟩
theorem looks_ty {M : Model} {s : Shared} {a : Addr} {T : String} (h : s.TypeIs (.ref a) T) : Looks M s.heap (typeOf (.ref a)) (.type T) := by
  obtain ⟨o, ho, hc⟩ := h
  intro A Q E s2 kp q
  exact wpAny_typeOf_ref (kp _ _ ho) (hc ▸ q)
/-- the type of a value, as the library looks for it -/
def TyL (X : Cx) (x : V) (H : Hp) (T : String) : Prop := ∀ pins s sg u, Inv X pins sg H s → RelV x u → Looks (model X.prog X.w) s.heap (typeOf u) (.type T)
theorem tyl_non {H : Hp} : TyL X .non H "NoneType" := fun _ _ _ u _ r => by cases r; exact Looks.of_pure rfl
theorem tyl_bl {H : Hp} {b : Bool} : TyL X (.bl b) H "bool" := fun _ _ _ u _ r => by cases r; exact Looks.of_pure rfl
theorem tyl_int {H : Hp} {b : Int} : TyL X (.int b) H "int" := fun _ _ _ u _ r => by obtain ⟨t, rfl⟩ := r; exact Looks.of_pure rfl
theorem tyl_str {H : Hp} {b : Str} : TyL X (.str b) H "str" := fun _ _ _ u _ r => by obtain ⟨t, rfl⟩ := r; exact Looks.of_pure rfl
theorem tyl_tup {H : Hp} {a : Addr} {xs : List V} (h : SqT X.K H a xs) : TyL X (.ref a) H "tuple" := fun _ _ _ u I r => by
  cases r
  obtain ⟨its, _, t1, _⟩ := I.tuple h
  exact looks_ty t1.typeIs
theorem tyl_lst {H : Hp} {a : Addr} {xs : List V} (h : SqL X.K H a xs) : TyL X (.ref a) H "list" := fun _ _ _ u I r => by
  cases r
  obtain ⟨its, _, t1, _⟩ := I.list h
  exact looks_ty t1.isList.typeIs
/-- what the text says of a class's own operator, against a value of the built-in type T -/
structure Bo (K : PySem.W.Frag) (C : Addr) (op : Operator) (f : Addr) : Prop where
  first : selfFirst K C = true
  sm : Sm K C (PySem.dunder op.info.2) f
  refl : findIn K (.ref C) (dunderR op.info.2) = some none
structure BoT (K : PySem.W.Frag) (C : Addr) (op : Operator) (T : String) : Prop where
  l : ∃ fo, findIn K (.type T) (PySem.dunder op.info.2) = some fo
  r : ∃ ro, findIn K (.type T) (dunderR op.info.2) = some ro
  sub : subIn K (.type T) (.ref C) = some false
/-- the left operand's method is asked first, and answers: whatever the two operands are -/
theorem left_asked {prog : Program} {w : World} {A : Around} {E : Value → Shared → Prop} {s : Shared} {a b ta tb : Value} {nm : String} {r p : Bool} {ro : Option Value} {R : Option Value → Shared → Prop}
    (la : Looks (model prog w) s.heap (typeOf a) ta) (lb : Looks (model prog w) s.heap (typeOf b) tb) (ne : (ta == tb) = false) (fa : Looks (model prog w) s.heap (fillsNumberSlot ta nm) true)
    (fb : Looks (model prog w) s.heap (fillsNumberSlot tb nm) r) (sb : Looks (model prog w) s.heap (isSubtype tb ta) false) (pa : Looks (model prog w) s.heap (numberSlotInPython ta nm) true)
    (pb : Looks (model prog w) s.heap (numberSlotInPython tb nm) p) (lr : Looks (model prog w) s.heap (typeLookup tb (dunderR nm)) ro)
    (ask : wpAny (model prog w) A (tryMethod a (PySem.dunder nm) b) (fun u s2 => u.isSome = true ∧ R u s2) E s) : wpAny (model prog w) A (binaryOp1 nm a b) R E s := by
  obtain ⟨hh, ge, dr, tk, os⟩ := s
  unfold binaryOp1
  refine wpAny_bind (la.at (wpAny_bind (lb.at (wpAny_bind (fa.at ?_)))))
  rw [ne]
  cases r <;> cases p <;>
  · simp only [Bool.false_eq_true, if_false]
    ksp_lk
    refine wpAny_mono ask (fun u s2 z => ?_) fun _ _ e => e
    cases u with
    | none => exact absurd z.1 (by decide)
    | some v => exact wpAny_pure z.2
theorem op_answered {M : Model} {A : Around} {E : Value → Shared → Prop} {s : Shared} {a b : Value} {op : Operator} {Q : Value → Shared → Prop} (h : wpAny M A (binaryOp1 op.info.2 a b) (fun u s2 => ∃ v, u = some v ∧ Q v s2) E s) : wpAny M A (binaryOp op a b) Q E s := by
  unfold binaryOp
  revert h
  rcases op.info with ⟨sy, nm⟩
  intro h
  refine wpAny_holding (wpAny_bind (wpAny_mono h (fun u s2 z => ?_) fun _ _ e => e))
  rcases z with ⟨v, rfl, z⟩
  exact wpAny_pure z
/-- x op b by the class of x, whatever b's built-in type does -/
theorem bin_look {prog : Program} {w : World} {A : Around} {E : Value → Shared → Prop} {s : Shared} {K : PySem.W.Frag} {x C f L : Addr} {h0 : Heap} {m : Str → Option Value} {ox : Obj} {od : Option Obj} {op : Operator} {b : Value} {T : String} {Q : Value → Shared → Prop}
    (F : PyProof.Rows.Fr h0 L s.heap m) (X0 : K.In h0) (I : InstAt s.heap x ox C od) (hb : Looks (model prog w) s.heap (typeOf b) (.type T)) (o : Bo K C op f) (t : BoT K C op T)
    (h : wpAny (model prog w) A (call (.ref f) [.ref x, b]) (CmpBack Q) E s) : wpAny (model prog w) A (binaryOp op (.ref x) b) Q E s :=
  let XK := X0.keeps F.keep
  let ⟨_, _, hcd, hmro⟩ := ksp_first o.first
  let ⟨_, t1⟩ := t.l
  let ⟨_, t2⟩ := t.r
  op_answered (left_asked I.type hb (beq_eq_false_iff_ne.mpr fun z => nomatch z) (fills_K XK hcd hmro o.sm.at_) (ksp_fillsT XK t1 t2) (looks_subIn XK t.sub) (ksp_inPy XK o.sm.at_ o.refl (.inl rfl)) (Looks.of_pure rfl) (looks_findIn XK t2)
    (wpAny_mono (ksp_try XK I o.sm.at_ o.sm.fn h) (fun _ _ ⟨v, e, q⟩ => ⟨e ▸ rfl, v, e, q⟩) fun _ _ z => z))
theorem cmpBack_of {X : Cx} {pins : List (Addr × Obj)} {sg : L2.St} {Q : VK} {u : Value} {s : Shared} (h : EP X pins sg Q u s) : CmpBack (EP X pins sg Q) u s := by
  obtain ⟨v, H, I, r, q⟩ := h
  cases v with
  | non => cases r; exact ⟨.non, H, I, rfl, q⟩
  | bl b => cases r; exact ⟨.bl b, H, I, rfl, q⟩
  | int i => obtain ⟨t, rfl⟩ := r; exact ⟨.int i, H, I, ⟨t, rfl⟩, q⟩
  | str i => obtain ⟨t, rfl⟩ := r; exact ⟨.str i, H, I, ⟨t, rfl⟩, q⟩
  | byt i => obtain ⟨t, rfl⟩ := r; exact ⟨.byt i, H, I, ⟨t, rfl⟩, q⟩
  | flt i => obtain ⟨t, rfl⟩ := r; exact ⟨.flt i, H, I, ⟨t, rfl⟩, q⟩
  | ref a => cases r; exact ⟨.ref a, H, I, rfl, q⟩
  | ty n => cases r; exact ⟨.ty n, H, I, rfl, q⟩
/-- x op y, y of a built-in type for which the text's facts stand -/
abbrev rOwnT (X : Cx) (C : Addr) (op : Operator) (sp : Sp) (E : XK) : R2 := fun x y H Q => ∃ a dx fs T, x = .ref a ∧ H a = some (.ins C dx fs) ∧ TyL X y H T ∧ BoT X.K C op T ∧ sp [x, y] H Q E
theorem op_own {op : Operator} (o : Bo X.K C op f) (F : FnOk X.prog X.w X.K X.mg X.base CX k f fd ps sp) (hr : Room k X.A) (hb : Binds X.K fd ps []) (hx : Passes CX X E) : OpR X (binaryOp op) (rOwnT X C op sp E) := by
  intro pins s sg H x y v u Q I rx ry h
  obtain ⟨a, dx, fs, T, rfl, ha, ty, bt, h⟩ := h
  cases rx
  obtain ⟨od, J⟩ := inst_at I ha
  obtain ⟨m1, hF⟩ := I.fr
  exact bin_look hF I.ok.mod.kin J (ty pins s sg u I ry) o bt (wpAny_mono (run_fn F hr rfl hb hx I (.cons (show RelV (.ref a) (.ref a) from rfl) (.cons ry .nil)) h) (fun u2 s2 z => cmpBack_of z) fun _ _ z => z)
/-! ### == and != by the class's own __eq__ -/
/-- a type against which x's class goes first: a built-in one, or the class itself -/
inductive TyE (X : Cx) (C : Addr) (H : Hp) : V → Prop where
  | ty {y : V} {T : String} (h : TyL X y H T) (s : subIn X.K (.type T) (.ref C) = some false) : TyE X C H y
  | own {a dx : Addr} {fs : List (Str × V)} (h : H a = some (.ins C dx fs)) : TyE X C H (.ref a)
abbrev rOwnE (X : Cx) (C : Addr) (sp : Sp) (E : XK) : R2 := fun x y H Q => ∃ a dx fs, x = .ref a ∧ H a = some (.ins C dx fs) ∧ TyE X C H y ∧ sp [x, y] H Q E
theorem eq_own (m : Sm X.K C "__eq__" f) (F : FnOk X.prog X.w X.K X.mg X.base CX k f fd ps sp) (hr : Room k X.A) (hb : Binds X.K fd ps []) (hx : Passes CX X E) : OpR X (compareOp .Eq) (rOwnE X C sp E) := by
  intro pins s sg H x y v u Q I rx ry h
  obtain ⟨a, dx, fs, rfl, ha, ty, h⟩ := h
  cases rx
  obtain ⟨od, J⟩ := inst_at I ha
  obtain ⟨m1, hF⟩ := I.fr
  have fin := wpAny_mono (run_fn F hr rfl hb hx I (.cons (show RelV (.ref a) (.ref a) from rfl) (.cons ry .nil)) h) (fun u2 s2 z => cmpBack_of z) fun _ _ z => z
  cases ty with
  | @ty y T h1 h2 => exact cmp_K (op := .Eq) (tb := .type T) hr.units0 hF I.ok.mod.kin J (h1 pins s sg u I ry) (by unfold notFirst; rw [h2]; simp) m.at_ m.fn fin
  | @own b dy gs hb2 =>
    cases ry
    obtain ⟨od2, J2⟩ := inst_at I hb2
    exact cmp_K (op := .Eq) (tb := .ref C) hr.units0 hF I.ok.mod.kin J J2.type (by unfold notFirst; simp) m.at_ m.fn fin
/-- object.__ne__ asks the class's own __eq__ and turns its answer about -/
theorem ne_entry {prog : Program} {w : World} {A : Around} {E : Value → Shared → Prop} {s : Shared} {K : PySem.W.Frag} {x C f L : Addr} {h0 : Heap} {m : Str → Option Value} {ox : Obj} {od : Option Obj} {b : Value} {Q : Fin → Shared → Prop}
    (hu : A.units < cLine) (F : PyProof.Rows.Fr h0 L s.heap m) (X0 : K.In h0) (I : InstAt s.heap x ox C od) (e : Sm K C "__eq__" f)
    (h : wpAny (model prog w) A (call (.ref f) [.ref x, b]) (fun v s2 => ∃ c, v = .bool c ∧ Q (.done (.ret (.bool (!c)))) s2) E s) : wpAny (model prog w) A (Builtin.«object.__ne__» ⟨[.ref x, b], []⟩) Q E s := by
  have asked : wpAny (model prog w) A (callSpecialIfBound? (.ref x) (Str.ofString "__eq__") [b]) (fun r s2 => ∃ c, r = some (.bool c) ∧ Q (.done (.ret (.bool (!c)))) s2) E s :=
    ifBound_K (X0.keeps F.keep) I e.at_ e.fn (wpAny_mono h (fun v s2 ⟨c, hv, q⟩ => ⟨c, congrArg some hv, q⟩) fun _ _ z => z)
  refine wpAny_bind (wpAny_pure (wpAny_bind (wpAny_cRoomFor hu (wpAny_bind (wpAny_mono asked ?_ fun _ _ z => z)))))
  rintro r s2 ⟨c, rfl, q⟩
  exact wpAny_bind (wpAny_truthy_bool (wpAny_pure q))
/-- a comparison that the left side answers: the right side's class is the same, or none that goes first -/
theorem cmp_answered {M : Model} {A : Around} {E : Value → Shared → Prop} {s : Shared} {x : Addr} {b ta tb : Value} {op : CmpOp} {Q : Value → Shared → Prop} (hu : A.units < cLine) (la : Looks M s.heap (typeOf (.ref x)) ta) (lb : Looks M s.heap (typeOf b) tb)
    (sub : (ta != tb) = true → Looks M s.heap (isSubtype tb ta) false) (ask : wpAny M A (tryCompare (.ref x) (cmpInfo op).2.1 b) (fun r s2 => ∃ v, r = some v ∧ Q v s2) E s) : wpAny M A (richCompare op (.ref x) b) Q E s := by
  have rest : ∀ {k : Option Value → Sem Value}, (∀ v, k (some v) = pure v) → wpAny M A (tryCompare (.ref x) (cmpInfo op).2.1 b >>= k) Q E s := fun hk => wpAny_bind (wpAny_mono ask (fun _ _ ⟨v, e, q⟩ => by rw [e, hk]; exact wpAny_pure q) fun _ _ z => z)
  unfold richCompare
  rw [oneThing_ref]
  refine wpAny_holding (wpAny_bind (wpAny_cRoomFor hu (wpAny_bind (la.here (wpAny_bind (lb.here ?_))))))
  cases ne : ta != tb with
  | true => exact wpAny_bind ((sub ne).here (rest fun _ => rfl))
  | false => exact wpAny_bind (wpAny_pure (rest fun _ => rfl))
theorem ne_look {prog : Program} {w : World} {A : Around} {E : Value → Shared → Prop} {s : Shared} {K : PySem.W.Frag} {x C f L : Addr} {h0 : Heap} {m : Str → Option Value} {ox : Obj} {od : Option Obj} {b tb : Value} {Q : Value → Shared → Prop}
    (hu : A.units + 1 < cLine) (F : PyProof.Rows.Fr h0 L s.heap m) (X0 : K.In h0) (I : InstAt s.heap x ox C od) (hb : Looks (model prog w) s.heap (typeOf b) tb) (hn : notFirst K C tb = true)
    (hob : mroIn K C (.type "object") = some true) (e : Sm K C "__eq__" f) (n : findIn K (.ref C) "__ne__" = some (some (.builtin "object.__ne__")))
    (h : wpAny (model prog w) A.in1 (call (.ref f) [.ref x, b]) (fun v s2 => ∃ c, v = .bool c ∧ Q (.bool (!c)) s2) E s) : wpAny (model prog w) A (richCompare .NotEq (.ref x) b) Q E s := by
  have XK := X0.keeps F.keep
  have body : wpAny (model prog w) A (call (.builtin "object.__ne__") [.ref x, b]) (fun v s2 => ∃ c, v = .bool c ∧ Q (.bool c) s2) E s := by
    have sub : Looks (model prog w) s.heap (isInstance (.ref x) (.type "object")) true := I.type.andThen (looks_mroIn XK hob)
    refine wpAny_call (codeAny_call_builtin PySem.F.cmp_object.ne.plain PySem.F.cmpEntry_ne (@PySem.W.check_slot (model prog w) _ _ s "object.__ne__" "object" "__ne__" (.ref x) [b] [] _ PySem.F.cmpKind_ne PySem.F.cmpSplit_ne sub (PySem.F.cmpArgs_ne _ _) ?_))
    exact ne_entry (A := A.in1) hu F X0 I e (wpAny_mono h (fun v s2 z => by
      obtain ⟨c, rfl, z⟩ := z
      exact ⟨c, rfl, !c, rfl, z⟩) fun _ _ z => z)
  have fin : wpAny (model prog w) A (call (.builtin "object.__ne__") ([.ref x] ++ [b]) >>= fun v => pure (some v)) (fun r s2 => ∃ c, r = some (.bool c) ∧ Q (.bool c) s2) E s :=
    wpAny_bind (wpAny_mono body (fun v s2 ⟨c, hv, z⟩ => wpAny_pure ⟨c, congrArg some hv, z⟩) fun _ _ z => z)
  have bnd : Looks (model prog w) s.heap (bindSpecial (.builtin "object.__ne__") (.ref x)) (.builtin "object.__ne__", [.ref x]) := Looks.of_pure (PySem.F.cmp_object.ne.bind _)
  refine cmp_answered (op := .NotEq) (Nat.lt_of_succ_lt hu) I.type hb (fun ne => looks_subIn XK ?_) ?_
  · unfold notFirst at hn
    cases eq : tb == .ref C with
    | true => rw [eq_of_beq eq] at ne; simp at ne
    | false => rw [eq] at hn; exact eq_of_beq hn
  · show wpAny _ _ (tryCompare (.ref x) "__ne__" b) _ _ _
    have took : wpAny (model prog w) A (callSpecialIfBound? (.ref x) "__ne__" [b]) (fun r s2 => ∃ c, r = some (.bool c) ∧ Q (.bool c) s2) E s := by
      simp only [callSpecialIfBound?, bindSpecialIfBound?]
      refine wpAny_holding (wpAny_bind (wpAny_bind (wpAny_bind (I.type.here ((looks_findIn XK n).here (wpAny_bind (wpAny_askSetting (wpAny_ite ?_))))))))
      split <;> first | exact wpAny_bind (bnd.here (wpAny_pure fin)) | exact wpAny_tryCatch (wpAny_bind (bnd.here (wpAny_pure fin)))
    unfold tryCompare
    exact wpAny_bind (wpAny_mono took (fun r s2 ⟨c, e, z⟩ => e ▸ wpAny_pure ⟨_, rfl, z⟩) fun _ _ z => z)
abbrev rOwnN (X : Cx) (C : Addr) (sp : Sp) (E : XK) : R2 := fun x y H Q => ∃ a dx fs, x = .ref a ∧ H a = some (.ins C dx fs) ∧ TyE X C H y ∧ sp [x, y] H (fun v H' => ∃ c, v = .bl c ∧ Q (.bl (!c)) H') E
theorem ne_own (m : Sm X.K C "__eq__" f) (n : findIn X.K (.ref C) "__ne__" = some (some (.builtin "object.__ne__"))) (hob : mroIn X.K C (.type "object") = some true) (F : FnOk X.prog X.w X.K X.mg X.base CX k f fd ps sp) (hr : Room (k + 1) X.A) (hb : Binds X.K fd ps []) (hx : Passes CX X E) :
    OpR X (compareOp .NotEq) (rOwnN X C sp E) := by
  intro pins s sg H x y v u Q I rx ry h
  obtain ⟨a, dx, fs, rfl, ha, ty, h⟩ := h
  cases rx
  obtain ⟨od, J⟩ := inst_at I ha
  obtain ⟨m1, hF⟩ := I.fr
  have fin : wpAny (model X.prog X.w) X.A.in1 (call (.ref f) [.ref a, u]) (fun v s2 => ∃ c, v = .bool c ∧ EP X pins sg Q (.bool (!c)) s2) X.xe s :=
    wpAny_mono (run_fn F hr.in1 rfl hb hx I (.cons (show RelV (.ref a) (.ref a) from rfl) (.cons ry .nil)) h) (fun u2 s2 z => by
      obtain ⟨v2, H2, I2, r2, c, rfl, q⟩ := z
      cases r2
      exact ⟨c, rfl, .bl (!c), H2, I2, rfl, q⟩) fun _ _ z => z
  cases ty with
  | @ty y T h1 h2 => exact ne_look (tb := .type T) (by have := hr.units; omega) hF I.ok.mod.kin J (h1 pins s sg u I ry) (by unfold notFirst; rw [h2]; simp) hob m n fin
  | @own b dy gs hb2 =>
    cases ry
    obtain ⟨od2, J2⟩ := inst_at I hb2
    exact ne_look (tb := .ref C) (by have := hr.units; omega) hF I.ok.mod.kin J J2.type (by unfold notFirst; simp) hob m n fin
end
end DL

/-! DF: defs by contract, instances, exceptions by data (own work). -/
namespace DL
open PySem L2 PySem.W

/-! ### defs -/
/-- the def at f keeps the contract C -/
def Fn (P : Program) (w : World) (K : PySem.W.Frag) (mg : Str → Option Value) (base : Heap) (k : Nat) (f : Addr) (ps : List Str) (C : Ct) : Prop := ∃ fd, FnOk P w K mg base (L2.CX P w) k f fd ps (spC K C) ∧ Binds K fd ps []
section
variable {P : Program} {w : World} {K : PySem.W.Frag} {mg : Str → Option Value} {base : Heap} {f : Addr} {fd : FuncData} {x qual : Str} {params : Arguments} {body : List Stmt} {scope : Scope} {ps N : List Str} {k j : Nat} {C : Ct}
theorem Fn.up (F : Fn P w K mg base j f ps C) (h : j ≤ k) : Fn P w K mg base k f ps C := let ⟨fd, a, b⟩ := F; ⟨fd, a.mono h, b⟩
theorem fn_okG {dvs : List V} (F : FunD K x qual params body scope dvs [] f fd) (S : FnScope N ps scope)
    (hl : ∀ ws ka out, C ws ka out → ws.length = ps.length)
    (h : ∀ (cdv : Value) (A : Around) (outer : List Env) (s : Shared) (H : Hp) (E : XK), Room k (A.deeper (PyProof.Rows.envOfC qual scope s.heap.objs.size f cdv)) →
      ∃ t, PSs (cxOf (L2.CX P w) P w K mg base N qual scope f cdv A outer s H E) body t ∧
        ∀ ws ka out B F0 Q, C ws ka out → RtOk K B F0 out Q → RxOk K B F0 out E → Gp K B F0 [] (t { nx := fun _ H' => Q .non H', rt := Q }) (ws.map some ++ List.replicate (N.length - ps.length) none) ka) : FnOk P w K mg base (L2.CX P w) (k + 1) f fd ps (spC K C) := by
  refine (F.ok S (fun vs H Q E h => ?_) (fun cdv A outer s H vs Q E hr hs => ?_))
  · obtain ⟨B, F', ws, ka, out, hC, l, _⟩ := h
    rw [l]
    exact hl _ _ _ hC
  · obtain ⟨t, d, p⟩ := h cdv A outer s H E hr
    obtain ⟨B, F0, ws, ka, out, hC, l, ⟨F1, g1, en⟩, hR, hX⟩ := hs
    refine ⟨t, d, p ws ka out B F0 Q hC hR hX _ H ⟨F1, g1, ?_⟩⟩
    have hw := hl _ _ _ hC
    refine (en.frame (ro' := ws.map some ++ List.replicate (N.length - ps.length) none) (sg' := L2.start N vs) ?_ fun i w2 e => ?_).held fun p hp => by cases hp
    · unfold L2.start
      rw [List.length_append, List.length_append, List.length_map, List.length_map, List.length_replicate, List.length_replicate, l, hw]
    · unfold L2.start
      by_cases hi : i < ws.length
      · rw [List.getElem?_append_left (by rw [List.length_map]; exact hi), List.getElem?_map, List.getElem?_eq_getElem hi] at e
        have e' : ws[i] = w2 := by simpa using e
        rw [List.getElem?_append_left (by rw [List.length_map, l]; exact hi), List.getElem?_map, List.getElem?_eq_getElem (by rw [l]; exact hi)]
        refine ⟨vs[i], rfl, ?_⟩
        have := en.tm (vs[i]'(by rw [l]; exact hi), ws[i]) (by
          have hz : (vs.zip ws)[i]? = some (vs[i]'(by rw [l]; exact hi), ws[i]) := by
            rw [List.getElem?_zip_eq_some]
            exact ⟨List.getElem?_eq_getElem _, List.getElem?_eq_getElem _⟩
          exact List.mem_of_getElem? hz)
        rw [e'] at this
        exact this
      · rw [List.getElem?_append_right (by rw [List.length_map]; omega), List.getElem?_replicate] at e
        split at e <;> cases e
theorem fn_okF (F : FunD K x qual params body scope [] [] f fd) (S : FnScope N ps scope)
    (hb : ∀ (kV doc pm : Value) (an : Option Addr) (cdv ct : Value) (us : List Value), us.length = ps.length → bindArgs (PySem.W.fnOf x qual params body scope .none kV doc pm an cdv ct) ⟨us, []⟩ = pure (ps.zip us))
    (hl : ∀ ws ka out, C ws ka out → ws.length = ps.length)
    (h : ∀ (cdv : Value) (A : Around) (outer : List Env) (s : Shared) (H : Hp) (E : XK), Room k (A.deeper (PyProof.Rows.envOfC qual scope s.heap.objs.size f cdv)) →
      ∃ t, PSs (cxOf (L2.CX P w) P w K mg base N qual scope f cdv A outer s H E) body t ∧
        ∀ ws ka out B F0 Q, C ws ka out → RtOk K B F0 out Q → RxOk K B F0 out E → Gp K B F0 [] (t { nx := fun _ H' => Q .non H', rt := Q }) (ws.map some ++ List.replicate (N.length - ps.length) none) ka) : FnOk P w K mg base (L2.CX P w) (k + 1) f fd ps (spC K C) := fn_okG F S hl h
theorem fn_ok (F : FunD K x qual params body scope [] [] f fd) (S : FnScope N ps scope)
    (hb : ∀ (kV doc pm : Value) (an : Option Addr) (cdv ct : Value) (us : List Value), us.length = ps.length → bindArgs (PySem.W.fnOf x qual params body scope .none kV doc pm an cdv ct) ⟨us, []⟩ = pure (ps.zip us))
    (hl : ∀ ws ka out, C ws ka out → ws.length = ps.length)
    (h : ∀ (cdv : Value) (A : Around) (outer : List Env) (s : Shared) (H : Hp) (E : XK), Room k (A.deeper (PyProof.Rows.envOfC qual scope s.heap.objs.size f cdv)) →
      ∃ t, PSs (cxOf (L2.CX P w) P w K mg base N qual scope f cdv A outer s H E) body t ∧
        ∀ ws ka out B F0 Q, C ws ka out → RtOk K B F0 out Q → RxOk K B F0 out E → Gp K B F0 [] (t { nx := fun _ H' => Q .non H', rt := Q }) (ws.map some ++ List.replicate (N.length - ps.length) none) ka) : Fn P w K mg base (k + 1) f ps C := ⟨fd, fn_okF F S hb hl h, F.bindsN hb⟩
end
/-- the def behind a contract, and what is known of it -/
noncomputable def Fn.fd {P : Program} {w : World} {K : PySem.W.Frag} {mg : Str → Option Value} {base : Heap} {k : Nat} {f : Addr} {ps : List Str} {C : Ct} (F : Fn P w K mg base k f ps C) : FuncData := Classical.choose F
theorem Fn.ok {P : Program} {w : World} {K : PySem.W.Frag} {mg : Str → Option Value} {base : Heap} {k : Nat} {f : Addr} {ps : List Str} {C : Ct} (F : Fn P w K mg base k f ps C) : FnOk P w K mg base (L2.CX P w) k f F.fd ps (spC K C) := (Classical.choose_spec F).1
theorem Fn.bn {P : Program} {w : World} {K : PySem.W.Frag} {mg : Str → Option Value} {base : Heap} {k : Nat} {f : Addr} {ps : List Str} {C : Ct} (F : Fn P w K mg base k f ps C) : Binds K F.fd ps [] := (Classical.choose_spec F).2
section
variable {X : Cx}
theorem passes_no : Passes (L2.CX X.prog X.w) X (fun _ _ _ => False) := fun _ _ _ _ _ _ _ ⟨_, _, _, _, _, _, _, _, _, _, _, _, z⟩ => z.elim
end
end DL

/-! DG: instances by data (own work). -/
namespace DL
open PySem L2 PySem.W

section
variable {K : PySem.W.Frag} {B F F0 : Hp} {ro : Ro} {ka k1 k2 k3 kr : Cells} {ta : List (V × W)} {sg : L2.St} {H H' : Hp} {te tf tg : TE} {tr : TA} {tt : TT} {w x y z : W} {n : Nd} {C dx a : Addr} {fs : List (Str × D)} {b : Bool}

theorem rpf_lookup {F : Hp} : ∀ {fs : List (Str × D)} {xs : List (Str × V)} {f : Str} {d : D}, RpF K F fs xs → fs.lookup f = some d → ∃ v, xs.lookup f = some v ∧ Rp K F d v
  | [], _, _, _, _, e => by cases e
  | (g, d0) :: fs, xs, f, d, h, e => by
    obtain ⟨x, ys, rfl, h1, h2⟩ := h
    unfold List.lookup at e ⊢
    cases q : (f == g) with
    | true =>
      rw [q] at e
      cases e
      exact ⟨x, rfl, h1⟩
    | false =>
      rw [q] at e
      exact rpf_lookup h2 e
theorem rpf_none {F : Hp} : ∀ {fs : List (Str × D)} {xs : List (Str × V)} {f : Str}, RpF K F fs xs → fs.lookup f = none → xs.lookup f = none
  | [], xs, f, h, _ => by rw [show xs = [] from h]; rfl
  | (g, d0) :: fs, xs, f, h, e => by
    obtain ⟨x, ys, rfl, h1, h2⟩ := h
    unfold List.lookup at e ⊢
    cases q : (f == g) with
    | true => rw [q] at e; cases e
    | false => rw [q] at e; exact rpf_none h2 e
/-- w is an instance of the class at C with the fields fs; b: viewed -/
inductive Io (ka : Cells) : W → Addr → List (Str × D) → Bool → Prop where
  | v {D1 : Addr} {gs : List (Str × D)} : Io ka (.val (.ins D1 gs)) D1 gs false
  | w {D1 : Addr} {gs : List (Str × D)} : Io ka (.vw (.ins D1 gs)) D1 gs true
  | c {p D1 : Addr} {gs : List (Str × D)} (j : Nat) (h : ka[j]? = some (p, .ins D1 gs)) : Io ka (.val (.adr p)) D1 gs false
theorem rd_ins {H : Hp} {dx : Addr} {xs : List (Str × V)} (n : Nz F) (e : Exz F H) (h : Rd F a (.ins C dx xs)) : H a = some (.ins C dx xs) := by
  rcases h with h | ⟨o, h⟩
  · exact e.at h rfl
  · have := n a _ h
    cases this
/-- the built-in type of a value, by the abstract heap -/
inductive TyV (K : PySem.W.Frag) (H : Hp) : V → String → Prop where
  | non : TyV K H .non "NoneType"
  | bl {b : Bool} : TyV K H (.bl b) "bool"
  | int {b : Int} : TyV K H (.int b) "int"
  | str {b : Str} : TyV K H (.str b) "str"
  | lst {a : Addr} {xs : List V} (h : SqL K H a xs) : TyV K H (.ref a) "list"
  | tup {a : Addr} {xs : List V} (h : SqT K H a xs) : TyV K H (.ref a) "tuple"
theorem TyV.tyl {X : Cx} {y : V} {T : String} (h : TyV X.K H y T) : TyL X y H T := by
  cases h with
  | non => exact tyl_non
  | bl => exact tyl_bl
  | int => exact tyl_int
  | str => exact tyl_str
  | lst h => exact tyl_lst h
  | tup h => exact tyl_tup h
inductive TyE2 (K : PySem.W.Frag) (C : Addr) (H : Hp) : V → Prop where
  | ty {y : V} {T : String} (h : TyV K H y T) (s : subIn K (.type T) (.ref C) = some false) : TyE2 K C H y
  | own {a dx : Addr} {gs : List (Str × V)} (h : H a = some (.ins C dx gs)) : TyE2 K C H (.ref a)
theorem TyE2.tye {X : Cx} {y : V} (h : TyE2 X.K C H y) : TyE X C H y := by
  cases h with
  | ty h s => exact .ty h.tyl s
  | own h => exact .own h
abbrev rOwnT2 (K : PySem.W.Frag) (C : Addr) (op : Operator) (sp : Sp) (E : XK) : R2 := fun x y H Q => ∃ a dx fs T, x = .ref a ∧ H a = some (.ins C dx fs) ∧ TyV K H y T ∧ BoT K C op T ∧ sp [x, y] H Q E
abbrev rOwnE2 (K : PySem.W.Frag) (C : Addr) (sp : Sp) (E : XK) : R2 := fun x y H Q => ∃ a dx fs, x = .ref a ∧ H a = some (.ins C dx fs) ∧ TyE2 K C H y ∧ sp [x, y] H Q E
abbrev rOwnN2 (K : PySem.W.Frag) (C : Addr) (sp : Sp) (E : XK) : R2 := fun x y H Q => ∃ a dx fs, x = .ref a ∧ H a = some (.ins C dx fs) ∧ TyE2 K C H y ∧ sp [x, y] H (fun v H' => ∃ c, v = .bl c ∧ Q (.bl (!c)) H') E
theorem opr_imp {X : Cx} {f : Value → Value → Sem Value} {r r' : R2} (h : OpR X f r) (i : ∀ x y H Q, r' x y H Q → r x y H Q) : OpR X f r' := fun pins s sg H x y v u Q I rx ry q => h pins s sg H x y v u Q I rx ry (i _ _ _ _ q)
theorem opr_T {X : Cx} {op : Operator} {sp : Sp} {E : XK} (h : OpR X (binaryOp op) (rOwnT X C op sp E)) : OpR X (binaryOp op) (rOwnT2 X.K C op sp E) := opr_imp h fun x y H Q ⟨a, dx, fs, T, h1, h2, h3, h4, h5⟩ => ⟨a, dx, fs, T, h1, h2, h3.tyl, h4, h5⟩
theorem opr_E {X : Cx} {op : CmpOp} {sp : Sp} {E : XK} (h : OpR X (compareOp op) (rOwnE X C sp E)) : OpR X (compareOp op) (rOwnE2 X.K C sp E) := opr_imp h fun x y H Q ⟨a, dx, fs, h1, h2, h3, h5⟩ => ⟨a, dx, fs, h1, h2, h3.tye, h5⟩
theorem opr_N {X : Cx} {op : CmpOp} {sp : Sp} {E : XK} (h : OpR X (compareOp op) (rOwnN X C sp E)) : OpR X (compareOp op) (rOwnN2 X.K C sp E) := opr_imp h fun x y H Q ⟨a, dx, fs, h1, h2, h3, h5⟩ => ⟨a, dx, fs, h1, h2, h3.tye, h5⟩
theorem Io.get {v : V} (l : Io ka w C fs b) (e : EnF K B F ro ka ta sg H) (h : WOk K B F v w) : ∃ a dx xs, v = .ref a ∧ H a = some (.ins C dx xs) ∧ RpF K (if b then uni B F else F) fs xs := by
  cases l with
  | v =>
    obtain ⟨a, dx, xs, rfl, h1, h2⟩ := h
    exact ⟨a, dx, xs, rfl, rd_ins e.nz e.fz h1, h2⟩
  | w =>
    obtain ⟨a, dx, xs, rfl, h1, h2⟩ := h
    exact ⟨a, dx, xs, rfl, rd_ins (uni_nz e.nz) (uni_exz e.fz e.fr) h1, h2⟩
  | @c a C fs j hj =>
    obtain ⟨_, _, dx, xs, h1, h2⟩ := e.ce _ (List.mem_of_getElem? hj)
    exact ⟨a, dx, xs, h, h1, h2⟩
theorem Io.en {v : V} (l : Io ka w C fs b) (e : En K B F0 ro ka ta sg H) (h : (v, w) ∈ ta) : ∃ a dx xs, v = .ref a ∧ H a = some (.ins C dx xs) := by
  obtain ⟨F, g, e⟩ := e
  obtain ⟨a, dx, xs, h1, h2, _⟩ := l.get e (e.tm _ h)
  exact ⟨a, dx, xs, h1, h2⟩
/-- o.f, a field -/
theorem ev_fld {f : Str} {d : D} (h : EvD K te ro ka w k1) (l : Io k1 w C fs b) (c : Cls K C) (nf : NoAttr K C f) (hd : fs.lookup f = some d) : EvD K (tFld K te f) ro ka (part b d) k1 := fun B F0 ta sg H Q e q => h B F0 ta sg H _ e fun v H1 e1 => by
  obtain ⟨F, g, e1⟩ := e1
  obtain ⟨a, dx, xs, rfl, h1, h2⟩ := l.get e1 (e1.tm _ List.mem_cons_self)
  obtain ⟨v, h3, h4⟩ := rpf_lookup h2 hd
  refine ⟨a, C, dx, xs, v, rfl, h1, c, nf, h3, q v H1 ⟨F, g, ?_⟩⟩
  exact (e1.held (ta' := ta) fun p hp => List.mem_cons_of_mem _ hp).push (wok_part b h4)

/-! ### calls by contract: how they end -/
/-- the call ends with an exception of the class C1 -/
theorem sp_exc {Cc : Ct} {ws : List W} {out : Out → Cells → Prop} {vs : List V} {E : XK} {Q : VK} {C1 : Addr} {fs : List (Str × D)} (e : En K B F0 ro (ka ++ kr) (vs.zip ws ++ ta) sg H) (hl : vs.length = ws.length) (hC : Cc ws ka out) (ho : ∀ o k, out o k → o = .exc C1 fs ∧ k = k2)
    (q : ∀ dx H', En K B F0 ro (k2 ++ [(dx, .xd fs)] ++ kr) ta sg H' → E (.ref C1) (some dx) H') : spC K Cc vs H Q E := by
  obtain ⟨F, g, e⟩ := e
  refine ⟨off H ka, F, ws, ka, out, hC, hl, ⟨F, Gr.refl _ _, e.into (ro' := []) (sg' := []) (ta' := vs.zip ws) rfl (fun i w h => by simp at h) fun p hp => List.mem_append_left _ hp⟩, fun d' k v H' o _ => ?_, fun C fs k dx H' o ⟨F', g', e'⟩ => ?_, fun C k H' o _ => ?_⟩
  · have := (ho _ _ o).1
    cases this
  · obtain ⟨hd, rfl⟩ := ho _ _ o
    cases hd
    obtain ⟨g2, e2⟩ := e.back g' e' (tb := ta) fun p hp => .inl (List.mem_append_right _ hp)
    exact q dx H' ⟨F', g.trans g2, e2⟩
  · have := (ho _ _ o).1
    cases this
theorem sp_exc0 {Cc : Ct} {ws : List W} {out : Out → Cells → Prop} {vs : List V} {E : XK} {Q : VK} {C1 : Addr} (e : En K B F0 ro (ka ++ kr) (vs.zip ws ++ ta) sg H) (hl : vs.length = ws.length) (hC : Cc ws ka out) (ho : ∀ o k, out o k → o = .exc0 C1 ∧ k = k2)
    (q : ∀ H', En K B F0 ro (k2 ++ kr) ta sg H' → E (.ref C1) none H') : spC K Cc vs H Q E := by
  obtain ⟨F, g, e⟩ := e
  refine ⟨off H ka, F, ws, ka, out, hC, hl, ⟨F, Gr.refl _ _, e.into (ro' := []) (sg' := []) (ta' := vs.zip ws) rfl (fun i w h => by simp at h) fun p hp => List.mem_append_left _ hp⟩, fun d' k v H' o _ => ?_, fun C fs k dx H' o _ => ?_, fun C k H' o ⟨F', g', e'⟩ => ?_⟩
  · have := (ho _ _ o).1
    cases this
  · have := (ho _ _ o).1
    cases this
  · obtain ⟨hd, rfl⟩ := ho _ _ o
    cases hd
    obtain ⟨g2, e2⟩ := e.back g' e' (tb := ta) fun p hp => .inl (List.mem_append_right _ hp)
    exact q H' ⟨F', g.trans g2, e2⟩
/-- the call comes back with a new cell -/
theorem sp_new {Cc : Ct} {ws : List W} {out : Out → Cells → Prop} {vs : List V} {E : XK} {Q : VK} {m : Nd} (e : En K B F0 ro (ka ++ kr) (vs.zip ws ++ ta) sg H) (hl : vs.length = ws.length) (hC : Cc ws ka out) (ho : ∀ o k, out o k → ∃ a, o = .ret (.adr a) ∧ k = k2 ++ [(a, m)])
    (q : ∀ a H', En K B F0 ro (k2 ++ kr ++ [(a, m)]) ta sg H' → Q (.ref a) H') : spC K Cc vs H Q E := by
  obtain ⟨F, g, e⟩ := e
  refine ⟨off H ka, F, ws, ka, out, hC, hl, ⟨F, Gr.refl _ _, e.into (ro' := []) (sg' := []) (ta' := vs.zip ws) rfl (fun i w h => by simp at h) fun p hp => List.mem_append_left _ hp⟩, fun d' k v H' o ⟨F', g', e'⟩ => ?_, fun C fs k dx H' o _ => ?_, fun C k H' o _ => ?_⟩
  · obtain ⟨a, hd, rfl⟩ := ho _ _ o
    cases hd
    have hv : v = .ref a := e'.tm (v, .val (.adr a)) List.mem_cons_self
    subst hv
    obtain ⟨g2, e2⟩ := e.back g' e' (tb := ta) fun p hp => .inl (List.mem_append_right _ hp)
    refine q a H' ⟨F', g.trans g2, e2.perm ?_⟩
    rw [List.append_assoc, List.append_assoc]
    exact List.Perm.append_left _ List.perm_append_comm
  · obtain ⟨a, z, _⟩ := ho _ _ o
    cases z
  · obtain ⟨a, z, _⟩ := ho _ _ o
    cases z
theorem evn_call {Cc : Ct} {ws : List W} {out : Out → Cells → Prop} {E : XK} {m : Nd} (kr : Cells) (ha : EvA K tr ro ka ws (k1 ++ kr)) (hC : Cc ws k1 out) (ho : ∀ o k, out o k → ∃ a, o = .ret (.adr a) ∧ k = k2 ++ [(a, m)]) : EvN K (tCall (spC K Cc) [] E tr) ro ka m (k2 ++ kr) := fun B F0 ta sg H Q e q =>
  ha B F0 ta sg H _ e fun vs H1 hl e1 => by
    rw [List.append_nil]
    exact sp_new e1 hl hC ho q
/-- own operators: by contract -/
theorem rv_own2 {Cc : Ct} {out : Out → Cells → Prop} {E : XK} {d : D} {b : Bool} (kr : Cells) (l : Io (k1 ++ kr) x C fs b) (hC : Cc [x, y] k1 out) (ho : ∀ o k, out o k → o = .ret d ∧ k = k1) : RvD K (rOwn2 C (spC K Cc) E) (k1 ++ kr) x y (.val d) := fun B F0 ro ta sg H u v Q e h1 h2 q => by
  obtain ⟨a, dx, xs, rfl, ha⟩ := l.en e h1
  refine ⟨a, dx, xs, rfl, ha, sp_ret (ws := [x, y]) (ta := ta) (e.held fun p hp => ?_) rfl hC ho q⟩
  rcases List.mem_append.mp hp with hp | hp
  · simp at hp
    rcases hp with rfl | rfl
    · exact h1
    · exact h2
  · exact hp
theorem ru_own {Cc : Ct} {out : Out → Cells → Prop} {E : XK} {d : D} {b : Bool} (kr : Cells) (l : Io (k1 ++ kr) x C fs b) (hC : Cc [x] k1 out) (ho : ∀ o k, out o k → o = .ret d ∧ k = k1) : RuD K (rOwn1 C (spC K Cc) E) (k1 ++ kr) x (.val d) := fun B F0 ro ta sg H u Q e h1 q => by
  obtain ⟨a, dx, xs, rfl, ha⟩ := l.en e h1
  refine ⟨a, dx, xs, rfl, ha, sp_ret (ws := [x]) (ta := ta) (e.held fun p hp => ?_) rfl hC ho q⟩
  rcases List.mem_append.mp hp with hp | hp
  · simp at hp
    rw [hp]
    exact h1
  · exact hp
/-- o.f, a property -/
theorem ev_prop {Cc : Ct} {out : Out → Cells → Prop} {E : XK} {d : D} (kr : Cells) (h : EvD K te ro ka w (k1 ++ kr)) (l : Io (k1 ++ kr) w C fs b) (hC : Cc [w] k1 out) (ho : ∀ o k, out o k → o = .ret d ∧ k = k1) : EvD K (tProp C (spC K Cc) [] E te) ro ka (.val d) (k1 ++ kr) := fun B F0 ta sg H Q e q => h B F0 ta sg H _ e fun u H1 e1 => by
  obtain ⟨a, dx, xs, rfl, ha⟩ := l.en e1 List.mem_cons_self
  exact ⟨a, dx, xs, rfl, ha, sp_ret (vs := [.ref a]) (ws := [w]) (ta := ta) e1 rfl hC ho q⟩
/-- len of an own object -/
theorem rc_own_len {Cc : Ct} {out : Out → Cells → Prop} {E : XK} {m : Nat} (kr : Cells) (l : Io (k1 ++ kr) x C fs b) (hC : Cc [x] k1 out) (ho : ∀ o k, out o k → o = .ret (.int m) ∧ k = k1) (hm : m ≤ 100000) :
    RcD K (fun xs H Q => ∃ a dx fs, xs = [.ref a] ∧ H a = some (.ins C dx fs) ∧ spC K Cc xs H (fun v H' => ∃ n : Nat, v = .int n ∧ n ≤ 100000 ∧ Q v H') E) (k1 ++ kr) [x] (.val (.int m)) := fun B F0 ro ta sg H us Q e hl hm2 q => by
  obtain ⟨u, rfl, hu⟩ := zip_one hl hm2
  obtain ⟨a, dx, xs, rfl, ha⟩ := l.en e hu
  refine ⟨a, dx, xs, rfl, ha, sp_ret (vs := [.ref a]) (ws := [x]) (ta := ta) (e.held fun p hp => ?_) rfl hC ho fun v H' e2 => ?_⟩
  · rcases List.mem_append.mp hp with hp | hp
    · simp at hp
      rw [hp]
      exact hu
    · exact hp
  · have hv := e2.tm_int (v := v) (i := m) List.mem_cons_self
    exact ⟨m, hv, hm, q v H' e2⟩
/-- own == own, own != own, or a built-in's value -/
inductive Eo (ka : Cells) : W → Addr → Prop where
  | io {u : W} {D1 : Addr} {gs : List (Str × D)} {b1 : Bool} (l : Io ka u D1 gs b1) : Eo ka u D1
  | non {D1 : Addr} : Eo ka (.val .non) D1
  | bl {b1 : Bool} {D1 : Addr} : Eo ka (.val (.bl b1)) D1
  | int {b1 : Int} {D1 : Addr} : Eo ka (.val (.int b1)) D1
  | str {b1 : Str} {D1 : Addr} : Eo ka (.val (.str b1)) D1
  | sq {u : W} {t b1 : Bool} {ds : List D} {D1 : Addr} (l : Lk ka u t ds b1) : Eo ka u D1
/-- the built-in types, that the class goes ahead of -/
def EqT (K : PySem.W.Frag) (C : Addr) : Prop := ∀ T ∈ ["NoneType", "bool", "int", "str", "list", "tuple"], subIn K (.type T) (.ref C) = some false
theorem Eo.at {u : V} (hT : EqT K C) (l : Eo ka y C) (e : En K B F0 ro ka ta sg H) (h : (u, y) ∈ ta) : TyE2 K C H u := by
  cases l with
  | io l =>
    obtain ⟨a, dx, xs, rfl, ha⟩ := l.en e h
    exact .own ha
  | non =>
    obtain rfl := e.tm_non h
    exact .ty .non (hT _ (by simp))
  | bl =>
    obtain rfl := e.tm_bl h
    exact .ty .bl (hT _ (by simp))
  | int =>
    obtain rfl := e.tm_int h
    exact .ty .int (hT _ (by simp))
  | str =>
    obtain rfl := e.tm_str h
    exact .ty .str (hT _ (by simp))
  | @sq x t ds b C l =>
    obtain ⟨F, g, e⟩ := e
    obtain ⟨a, xs, rfl, h1, _⟩ := l.get e (e.tm _ h)
    cases t with
    | false => exact .ty (.lst (.inl h1)) (hT _ (by simp))
    | true => exact .ty (.tup h1) (hT _ (by simp))
theorem rv_ownE {Cc : Ct} {out : Out → Cells → Prop} {E : XK} {d : D} {b : Bool} (kr : Cells) (l : Io (k1 ++ kr) x C fs b) (hT : EqT K C) (ly : Eo (k1 ++ kr) y C) (hC : Cc [x, y] k1 out) (ho : ∀ o k, out o k → o = .ret d ∧ k = k1) : RvD K (rOwnE2 K C (spC K Cc) E) (k1 ++ kr) x y (.val d) := fun B F0 ro ta sg H u v Q e h1 h2 q => by
  obtain ⟨a, dx, xs, rfl, ha⟩ := l.en e h1
  refine ⟨a, dx, xs, rfl, ha, ly.at hT e h2, sp_ret (ws := [x, y]) (ta := ta) (e.held fun p hp => ?_) rfl hC ho q⟩
  rcases List.mem_append.mp hp with hp | hp
  · simp at hp
    rcases hp with rfl | rfl
    · exact h1
    · exact h2
  · exact hp
theorem rv_ownN {Cc : Ct} {out : Out → Cells → Prop} {E : XK} {c : Bool} {b : Bool} (kr : Cells) (l : Io (k1 ++ kr) x C fs b) (hT : EqT K C) (ly : Eo (k1 ++ kr) y C) (hC : Cc [x, y] k1 out) (ho : ∀ o k, out o k → o = .ret (.bl c) ∧ k = k1) : RvD K (rOwnN2 K C (spC K Cc) E) (k1 ++ kr) x y (.val (.bl (!c))) := fun B F0 ro ta sg H u v Q e h1 h2 q => by
  obtain ⟨a, dx, xs, rfl, ha⟩ := l.en e h1
  refine ⟨a, dx, xs, rfl, ha, ly.at hT e h2, sp_ret (ws := [x, y]) (ta := ta) (e.held fun p hp => ?_) rfl hC ho fun v2 H' e2 => ?_⟩
  · rcases List.mem_append.mp hp with hp | hp
    · simp at hp
      rcases hp with rfl | rfl
      · exact h1
      · exact h2
    · exact hp
  · exact ⟨c, e2.tm_bl List.mem_cons_self, q _ _ (e2.pop.push_imm fun _ => rfl)⟩
/-- own << other and the like: the other of a built-in type -/
structure TyWf (K : PySem.W.Frag) (C : Addr) (op : Operator) (ka : Cells) (y : W) : Prop where
  at_ : ∀ B F0 ro ta sg H u, En K B F0 ro ka ta sg H → (u, y) ∈ ta → ∃ T, TyV K H u T ∧ BoT K C op T
theorem tyw_int {op : Operator} {i : Int} (t : BoT K C op "int") : TyWf K C op ka (.val (.int i)) := ⟨fun B F0 ro ta sg H u e h => by obtain rfl := e.tm_int h; exact ⟨_, .int, t⟩⟩
theorem tyw_bl {op : Operator} {i : Bool} (t : BoT K C op "bool") : TyWf K C op ka (.val (.bl i)) := ⟨fun B F0 ro ta sg H u e h => by obtain rfl := e.tm_bl h; exact ⟨_, .bl, t⟩⟩
theorem tyw_str {op : Operator} {i : Str} (t : BoT K C op "str") : TyWf K C op ka (.val (.str i)) := ⟨fun B F0 ro ta sg H u e h => by obtain rfl := e.tm_str h; exact ⟨_, .str, t⟩⟩
theorem tyw_non {op : Operator} (t : BoT K C op "NoneType") : TyWf K C op ka (.val .non) := ⟨fun B F0 ro ta sg H u e h => by obtain rfl := e.tm_non h; exact ⟨_, .non, t⟩⟩
theorem tyw_tup {op : Operator} {w : W} {ds : List D} {b : Bool} (l : Lk ka w true ds b) (t : BoT K C op "tuple") : TyWf K C op ka w := ⟨fun B F0 ro ta sg H u e h => by
  obtain ⟨F, g, e⟩ := e
  obtain ⟨a, xs, rfl, h1, _⟩ := l.get e (e.tm _ h)
  exact ⟨_, .tup h1, t⟩⟩
theorem tyw_lst {op : Operator} {w : W} {ds : List D} {b : Bool} (l : Lk ka w false ds b) (t : BoT K C op "list") : TyWf K C op ka w := ⟨fun B F0 ro ta sg H u e h => by
  obtain ⟨F, g, e⟩ := e
  obtain ⟨a, xs, rfl, h1, _⟩ := l.get e (e.tm _ h)
  exact ⟨_, .lst (.inl h1), t⟩⟩
theorem rv_ownT {Cc : Ct} {op : Operator} {out : Out → Cells → Prop} {E : XK} {d : D} {b : Bool} (kr : Cells) (l : Io (k1 ++ kr) x C fs b) (t : TyWf K C op (k1 ++ kr) y) (hC : Cc [x, y] k1 out) (ho : ∀ o k, out o k → o = .ret d ∧ k = k1) : RvD K (rOwnT2 K C op (spC K Cc) E) (k1 ++ kr) x y (.val d) := fun B F0 ro ta sg H u v Q e h1 h2 q => by
  obtain ⟨a, dx, xs, rfl, ha⟩ := l.en e h1
  obtain ⟨T, ty, bt⟩ := t.at_ _ _ _ _ _ _ _ e h2
  refine ⟨a, dx, xs, T, rfl, ha, ty, bt, sp_ret (ws := [x, y]) (ta := ta) (e.held fun p hp => ?_) rfl hC ho q⟩
  rcases List.mem_append.mp hp with hp | hp
  · simp at hp
    rcases hp with rfl | rfl
    · exact h1
    · exact h2
  · exact hp
end
end DL

/-! DH: making objects, isinstance, conversions, exceptions by data (own work). -/
namespace DL
open PySem L2 PySem.W

section
variable {K : PySem.W.Frag} {B F F0 : Hp} {ro : Ro} {ka k1 k2 k3 kr : Cells} {ta : List (V × W)} {sg : L2.St} {H H' : Hp} {te tf tg : TE} {tr : TA} {tt : TT} {w x y z : W} {n : Nd} {C dx a : Addr} {fs : List (Str × D)} {b : Bool} {P : L2.St → Hp → Prop}

/-! ### an instance cell, frozen -/
theorem En.freeze_i (e : En K B F0 ro (ka ++ [(a, .ins C fs)]) ta sg H) : En K B F0 ro ka ((.ref a, .val (.ins C fs)) :: ta) sg H := by
  obtain ⟨F, g, e⟩ := e
  obtain ⟨fa, ba, dx, xs, ha, rl⟩ := e.ce (a, .ins C fs) (by simp)
  have gg : Gr B F (upd F a (.ins C dx xs)) := ⟨Sub.new fa, fun b h1 h2 => by
    have ne : b ≠ a := fun q => h2 (q ▸ ba)
    rw [upd_ne ne]
    exact h1⟩
  have nd2 := e.nd
  rw [List.map_append, List.nodup_append] at nd2
  refine ⟨upd F a (.ins C dx xs), g.trans gg, ⟨fun b u h => ?_, fun b u h => ?_, e.fr, nd2.1, fun q hq => ?_, e.ln, fun i w h => ?_, fun q hq => ?_⟩⟩
  · by_cases hb : b = a
    · subst hb; rw [upd_same] at h; cases h; rfl
    · rw [upd_ne hb] at h; exact e.nz b u h
  · by_cases hb : b = a
    · subst hb; rw [upd_same] at h; cases h; exact .inl ha
    · rw [upd_ne hb] at h; exact e.fz b u h
  · obtain ⟨h1, h2, h3⟩ := e.ce q (List.mem_append_left _ hq)
    have nq : q.1 ≠ a := fun z => nd2.2.2 q.1 (List.mem_map.mpr ⟨q, hq, rfl⟩) a (by simp) z
    exact ⟨by rw [upd_ne nq]; exact h1, h2, ndok_gr e.nz gg h3⟩
  · obtain ⟨v, h1, h2⟩ := e.sl i w h
    exact ⟨v, h1, wok_gr e.nz gg h2⟩
  · rcases List.mem_cons.mp hq with rfl | hq
    · exact ⟨a, dx, xs, rfl, .inl upd_same, RpF.mono gg.sub.exz e.nz _ _ rl⟩
    · exact wok_gr e.nz gg (e.tm q hq)
theorem EvN.ins {fs : List (Str × D)} (h : EvN K te ro ka (.ins C fs) k1) : EvD K te ro ka (.val (.ins C fs)) k1 := fun B F0 ta sg H Q e q => h B F0 ta sg H Q e fun a H1 e1 => q _ _ e1.freeze_i
/-- fewer cells -/
theorem En.less (e : En K B F0 ro ka ta sg H) (h : k1.Sublist ka) : En K B F0 ro k1 ta sg H := let ⟨F, g, q⟩ := e; ⟨F, g, q.cells h⟩
theorem EvD.less (h : EvD K te ro ka w k1) (s : k2.Sublist k1) : EvD K te ro ka w k2 := fun B F0 ta sg H Q e q => h B F0 ta sg H Q e fun v H1 e1 => q v H1 (e1.less s)
theorem Gp.less (h : Gp K B F0 ta P ro k1) (s : k1.Sublist ka) : Gp K B F0 ta P ro ka := fun sg H e => h sg H (e.less s)
theorem En.forget (e : En K B F0 ro ka ta sg H) {ro' : Ro} (hl : ro'.length = ro.length) (h : ∀ (i : Nat) w, ro'[i]? = some (some w) → ro[i]? = some (some w)) : En K B F0 ro' ka ta sg H := let ⟨F, g, q⟩ := e; ⟨F, g, q.forget hl h⟩

/-! ### C(e, ..) -/
/-- C(..): __init__ by contract; a new cell -/
theorem evn_make {Cc : Ct} {ws : List W} {E : XK} {m : Nd} (ha : EvA K tr ro ka ws k1)
    (hC : ∀ a, ∃ out, Cc (.val (.adr a) :: ws) (k1 ++ [(a, .ins C [])]) out ∧ ∀ o k, out o k → o = .ret .non ∧ k = k2 ++ [(a, m)]) : EvN K (tMake C (spC K Cc) [] E tr) ro ka m k2 := fun B F0 ta sg H Q e q =>
  ha B F0 ta sg H _ e fun vs H1 hl e1 => by
    intro x dx hx hd hne
    rw [List.append_nil]
    obtain ⟨F, g, e1⟩ := e1
    obtain ⟨e2, g2⟩ := e1.lay (o := .own x) hd rfl
    have hx2 : upd H1 dx (.own x) x = none := by rw [upd_ne (Ne.symm hne)]; exact hx
    have e3 := e2.cell (o := .ins C dx []) hx2 (n := .ins C []) ⟨dx, [], upd_same, rfl⟩
    have e4 := e3.push (v := .ref x) (w := .val (.adr x)) rfl
    obtain ⟨out, hC, ho⟩ := hC x
    have e5 : En K B F0 ro ((k1 ++ [(x, .ins C [])]) ++ []) ((V.ref x :: vs).zip (W.val (.adr x) :: ws) ++ ta) sg (upd (upd H1 dx (.own x)) x (.ins C dx [])) := by
      rw [List.append_nil]
      exact ⟨_, g.trans g2, e4⟩
    refine sp_ret (k2 := k2 ++ [(x, m)]) e5 (by rw [List.length_cons, List.length_cons, hl]) hC ho fun v H' e6 => ?_
    rw [List.append_nil] at e6
    exact ⟨e6.tm_non List.mem_cons_self, q x H' e6.pop⟩
theorem evx_make {Cc : Ct} {ws : List W} {E : XK} {C1 : Addr} {gs : List (Str × D)} {Q : VK} (ha : EvA K tr ro ka ws k1)
    (hC : ∀ a, ∃ out, Cc (.val (.adr a) :: ws) (k1 ++ [(a, .ins C [])]) out ∧ ∀ o k, out o k → o = .exc C1 gs ∧ k = k2)
    (e : En K B F0 ro ka ta sg H) (q : ∀ dx H', En K B F0 ro (k2 ++ [(dx, .xd gs)]) ta sg H' → E (.ref C1) (some dx) H') : tMake C (spC K Cc) [] E tr sg H Q :=
  ha B F0 ta sg H _ e fun vs H1 hl e1 => by
    intro x dx hx hd hne
    rw [List.append_nil]
    obtain ⟨F, g, e1⟩ := e1
    obtain ⟨e2, g2⟩ := e1.lay (o := .own x) hd rfl
    have hx2 : upd H1 dx (.own x) x = none := by rw [upd_ne (Ne.symm hne)]; exact hx
    have e3 := e2.cell (o := .ins C dx []) hx2 (n := .ins C []) ⟨dx, [], upd_same, rfl⟩
    have e4 := e3.push (v := .ref x) (w := .val (.adr x)) rfl
    obtain ⟨out, hC, ho⟩ := hC x
    have e5 : En K B F0 ro ((k1 ++ [(x, .ins C [])]) ++ []) ((V.ref x :: vs).zip (W.val (.adr x) :: ws) ++ ta) sg (upd (upd H1 dx (.own x)) x (.ins C dx [])) := by
      rw [List.append_nil]
      exact ⟨_, g.trans g2, e4⟩
    refine sp_exc e5 (by rw [List.length_cons, List.length_cons, hl]) hC ho fun dx H' e6 => ?_
    rw [List.append_nil] at e6
    exact q dx H' e6
/-- self.f = e, self a cell -/
def putD (f : Str) (v : D) : List (Str × D) → List (Str × D)
  | [] => [(f, v)]
  | (g, x) :: r => if g = f then (g, v) :: r else (g, x) :: putD f v r
theorem rpf_put {F : Hp} {f : Str} {v : V} {d : D} (hv : Rp K F d v) : ∀ {fs : List (Str × D)} {xs : List (Str × V)}, RpF K F fs xs → RpF K F (putD f d fs) (putF f v xs)
  | [], xs, h => by rw [show xs = [] from h]; exact ⟨v, [], rfl, hv, rfl⟩
  | (g, d0) :: fs, xs, h => by
    obtain ⟨x, ys, rfl, h1, h2⟩ := h
    unfold putD putF
    by_cases q : g = f
    · rw [if_pos q, if_pos q]
      exact ⟨v, ys, rfl, hv, h2⟩
    · rw [if_neg q, if_neg q]
      exact ⟨x, _, rfl, h1, rpf_put hv h2⟩
theorem rpf_len {F : Hp} : ∀ {fs : List (Str × D)} {xs : List (Str × V)}, RpF K F fs xs → xs.length = fs.length
  | [], xs, h => by rw [show xs = [] from h]; rfl
  | _ :: fs, xs, h => by
    obtain ⟨x, ys, rfl, _, h2⟩ := h
    rw [List.length_cons, List.length_cons, rpf_len h2]
theorem g_fld {f : Str} {d : D} {j : Nat} {De : Ends} (hv : EvD K tf ro ka (.val d) k1) (ho : EvD K te ro k1 (.val (.adr a)) k2) (hj : k2[j]? = some (a, .ins C fs)) (c : Cls K C) (nf : NoAttr K C f) (hz : fs.length < 900)
    (k : Gp K B F0 ta De.nx ro (k2.set j (a, .ins C (putD f d fs)))) : Gp K B F0 ta (sFld K te tf f De) ro ka := fun sg H e => hv B F0 ta sg H _ e fun v H1 e1 => ho B F0 _ sg H1 _ e1 fun u H2 e2 => by
  have hu := e2.tm_adr List.mem_cons_self
  subst hu
  obtain ⟨F, g, e2⟩ := e2
  obtain ⟨_, _, dx, xs, hx, rx⟩ := e2.ce _ (List.mem_of_getElem? hj)
  have hv := e2.tm (v, .val d) (List.mem_cons_of_mem _ List.mem_cons_self)
  refine ⟨a, C, dx, xs, rfl, hx, c, nf, by rw [rpf_len rx]; omega, k _ _ ⟨F, g, ?_⟩⟩
  exact (e2.write (o := .ins C dx (putF f v xs)) (n' := .ins C (putD f d fs)) hj ⟨dx, _, upd_same, rpf_put hv rx⟩).held fun p hp => List.mem_cons_of_mem _ (List.mem_cons_of_mem _ hp)
theorem q_fld {f : Str} {d : D} {j : Nat} {De : Ends} {u : TS} (hv : EvD K tf ro ka (.val d) k1) (ho : EvD K te ro k1 (.val (.adr a)) k2) (hj : k2[j]? = some (a, .ins C fs)) (c : Cls K C) (nf : NoAttr K C f) (hz : fs.length < 900)
    (k : Gp K B F0 ta (u De) ro (k2.set j (a, .ins C (putD f d fs)))) : Gp K B F0 ta (tSeq (sFld K te tf f) u De) ro ka := g_fld (De := { De with nx := u De }) hv ho hj c nf hz k

/-! ### isinstance -/
/-- the class facts for isinstance -/
structure ClsI (K : PySem.W.Frag) (C : Addr) : Prop where
  cl : Cls K C
  ha : findIn K (.ref C) "__class__" = some (some (.builtin "object.__class__"))
  hn : specialIn K (.builtin "object.__class__") "__get__" = some (some (.builtin "getset_descriptor.__get__"))
  htk : takesIn K (.builtin "object.__class__") = some true
  hm : mroIn K C (.type "object") = some true
/-- the type of what w stands for -/
inductive Tw (K : PySem.W.Frag) (ka : Cells) : W → Value → Prop where
  | non : Tw K ka (.val .non) (.type "NoneType")
  | bl {i : Bool} : Tw K ka (.val (.bl i)) (.type "bool")
  | int {i : Int} : Tw K ka (.val (.int i)) (.type "int")
  | str {i : Str} : Tw K ka (.val (.str i)) (.type "str")
  | lst {u : W} {ds : List D} {b1 : Bool} (l : Lk ka u false ds b1) : Tw K ka u (.type "list")
  | tup {u : W} {ds : List D} {b1 : Bool} (l : Lk ka u true ds b1) : Tw K ka u (.type "tuple")
  | io {u : W} {D1 : Addr} {gs : List (Str × D)} {b1 : Bool} (l : Io ka u D1 gs b1) (c : ClsI K D1) : Tw K ka u (.ref D1)
theorem Tw.at {t : Value} {v : V} (l : Tw K ka w t) (e : En K B F0 ro ka ta sg H) (h : (v, w) ∈ ta) : TyX K H v t := by
  cases l with
  | non => obtain rfl := e.tm_non h; exact .base .non
  | bl => obtain rfl := e.tm_bl h; exact .base (.bl _)
  | int => obtain rfl := e.tm_int h; exact .base (.int _)
  | str => obtain rfl := e.tm_str h; exact .base (.str _)
  | lst l =>
    obtain ⟨F, g, e⟩ := e
    obtain ⟨a, xs, rfl, h1, _⟩ := l.get e (e.tm _ h)
    rcases (show Rd H a (.lst xs) from h1) with h1 | ⟨o, h1⟩
    · exact .base (.lst h1)
    · exact .base (.frz h1)
  | tup l =>
    obtain ⟨F, g, e⟩ := e
    obtain ⟨a, xs, rfl, h1, _⟩ := l.get e (e.tm _ h)
    rcases (show SqT K H a xs from h1) with h1 | h1
    · rcases h1 with h1 | ⟨o, h1⟩
      · exact .base (.tup h1)
      · exact .fTuple h1
    · obtain ⟨o, its, n, q1, q2, _⟩ := h1
      exact .kTuple q1 q2
  | io l c =>
    obtain ⟨a, dx, xs, rfl, ha⟩ := l.en e h
    exact .base (.ins ha c.cl c.ha c.hn c.htk c.hm)
theorem rc_isi {T : String} {t : Value} {b : Bool} (l : Tw K ka w t) (h : kitOne K t (.type T) = some b) : RcD K (rIsi K) ka [w, .val (.ty T)] (.val (.bl b)) := fun B F0 ro ta sg H us Q e hl hm q => by
  obtain ⟨u, v, rfl, h1, h2⟩ := zip_two hl hm
  have hv : v = .ty T := e.tm_ty h2
  subst hv
  exact ⟨u, .ty T, t, .type T, b, rfl, .ty T, l.at e h1, h, q _ _ (e.push_imm fun _ => rfl)⟩
theorem rc_isiC {t : Value} {C1 : Addr} {b : Bool} (l : Tw K ka w t) (h : kitOne K t (.ref C1) = some b) : RcD K (rIsi K) ka [w, .val (.adr C1)] (.val (.bl b)) := fun B F0 ro ta sg H us Q e hl hm q => by
  obtain ⟨u, v, rfl, h1, h2⟩ := zip_two hl hm
  obtain rfl := e.tm_adr h2
  exact ⟨u, .ref C1, t, .ref C1, b, rfl, .own C1, l.at e h1, h, q _ _ (e.push_imm fun _ => rfl)⟩
end
end DL

/-! DJ: raise, try, by data; conversions (own work). -/
namespace DL
open PySem L2 PySem.W

/-! ### own exception classes -/
/-- the class object of an own error: its kind, its line of classes, its slots -/
def lineOk (C : Addr) (cd : ClassData) : Bool := !cd.hasDel && (cd.hasDict && (match cd.mro with
  | x :: r => x == .ref C && PySem.HandSPX.refsVE r
  | [] => false))
def slotsOk (sl : Array (Option Value)) : Bool := sl.size == 6 && sl[4]? == some (some (.builtin "ValueError.__new__"))
def errObj (C : Addr) (o : Obj) : Bool := o.cls == .type "type" && (slotsOk o.slots && (match o.data with
  | .cls cd => lineOk C cd
  | _ => false))
def oexB (K : PySem.W.Frag) (C : Addr) : Bool := (K.lookup C).any (errObj C) && (decide (findIn K (.ref C) "__setattr__" = some (some (.builtin "object.__setattr__"))) && (decide (subIn K (.ref C) (.type "BaseException") = some true) && (decide (typeIn K (.ref C) = some (.type "type")) && keepIn K (.ref C))))
theorem slots_six {sl : Array (Option Value)} (h : slotsOk sl = true) : ∃ a b c d e, sl = #[a, b, c, d, some (.builtin "ValueError.__new__"), e] := by
  obtain ⟨h1, h2⟩ := Bool.and_eq_true_iff.mp h
  have h1 := beq_iff_eq.mp h1
  have h2 := beq_iff_eq.mp h2
  obtain ⟨l⟩ := sl
  match l, h1, h2 with
  | [a, b, c, d, x, e], _, h2 =>
    have : x = some (.builtin "ValueError.__new__") := by simpa using h2
    exact ⟨a, b, c, d, e, by rw [this]⟩
theorem oexB_ok {K : PySem.W.Frag} {C : Addr} (h : oexB K C = true) : OexC K C := by
  have h := Bool.and_eq_true_iff.mp h
  have r1 := Bool.and_eq_true_iff.mp h.2
  have r2 := Bool.and_eq_true_iff.mp r1.2
  have r3 := Bool.and_eq_true_iff.mp r2.2
  refine ⟨?_, of_decide_eq_true r1.1, of_decide_eq_true r2.1, of_decide_eq_true r3.1, r3.2⟩
  obtain ⟨o, ho, h1⟩ : ∃ o, K.lookup C = some o ∧ errObj C o = true := by
    cases q : K.lookup C with
    | none => have := h.1; rw [q] at this; cases this
    | some o => have := h.1; rw [q] at this; exact ⟨o, rfl, this⟩
  have k1 := Bool.and_eq_true_iff.mp h1
  have k2 := Bool.and_eq_true_iff.mp k1.2
  have hc := beq_iff_eq.mp k1.1
  obtain ⟨s0, s1, s2, s3, s5, hs⟩ := slots_six k2.1
  obtain ⟨oc, od, dt, sl⟩ := o
  cases dt with
  | cls cd =>
    have l1 := Bool.and_eq_true_iff.mp (show (!cd.hasDel && (cd.hasDict && _)) = true from k2.2)
    have l2 := Bool.and_eq_true_iff.mp l1.2
    have hdel : cd.hasDel = false := by simpa using l1.1
    have hdict : cd.hasDict = true := l2.1
    cases hm : cd.mro with
    | nil => have := l2.2; rw [hm] at this; cases this
    | cons x r =>
      have l3 : (x == .ref C && PySem.HandSPX.refsVE r) = true := by have := l2.2; rw [hm] at this; exact this
      have l4 := Bool.and_eq_true_iff.mp l3
      have hx := beq_iff_eq.mp l4.1
      refine ⟨cd.name, cd.qualname, cd.ns, cd.bases, r, cd.slotNames, cd.subclasses, cd.abstract, cd.collection, od, s0, s1, s2, s3, s5, ?_, l4.2⟩
      rw [ho]
      have hc : oc = .type "type" := hc
      have hs : sl = _ := hs
      subst hc hs hx
      cases cd
      cases hm
      cases hdel
      cases hdict
      rfl
  | _ => cases k2.2
/-- what a raised own error with fields asks of the text -/
structure Xc (K : PySem.W.Frag) (C : Addr) : Prop where
  oex : OexC K C
  xf : XfC K C
def xcB (K : PySem.W.Frag) (C : Addr) : Bool := oexB K C && xfB K C
theorem xcB_ok {K : PySem.W.Frag} {C : Addr} (h : xcB K C = true) : Xc K C := let ⟨a, b⟩ := Bool.and_eq_true_iff.mp h; ⟨oexB_ok a, xfB_ok b⟩
/-- __init__(self, x): self.f = x -/
def spI1 (K : PySem.W.Frag) (C : Addr) (f : Str) : Sp := fun vs H Q _ => ∃ a y, vs = [.ref a, y] ∧ OexC K C ∧ findIn K (.ref C) f = some none ∧ H a = some (exo a C none) ∧
  ∀ d, H d = none → d ≠ a → Q .non (upd (upd H d (exd d [(f, y)])) a (exo a C (some d)))
theorem init1_ok {P : Program} {w : World} {K : PySem.W.Frag} {mg : Str → Option Value} {base : Heap} {f C : Addr} {fd : FuncData} {nm qual x fld : Str} {params : Arguments} {body : List Stmt} {scope : Scope} {k : Nat} {CX : CXT}
    (F : FunD K nm qual params body scope [] [] f fd) (S : FnScope ["self", x] ["self", x] scope)
    (h : ∀ (cdv : Value) (A : Around) (outer : List Env) (s : Shared) (H : Hp) (E : XK), PSs (cxOf CX P w K mg base ["self", x] qual scope f cdv A outer s H E) body (tOst K fld (tVar 0) (tVar 1))) : FnOk P w K mg base CX (k + 1) f fd ["self", x] (spI1 K C fld) :=
  F.ok S (fun vs H Q E ⟨a, y, e, _⟩ => by rw [e]; rfl) fun cdv A outer s H vs Q E hr ⟨a, y, e, T, hno, ha, q⟩ => ⟨_, h cdv A outer s H E, by
    subst e
    exact ⟨y, rfl, .ref a, rfl, a, C, rfl, T, hno, .inl ⟨ha, q⟩⟩⟩
/-- an own error class made without arguments: a new object, no fields -/
theorem pmk_zero {X : Cx} {C : Addr} {mros : List Value} {base new ini : String} {x : Str} {p pos : Pos} (facts : PySem.ExcBaseFacts base new ini mros) (known : excIn X.K C mros new = true) (here : X.mg x = some (.ref C)) (kept : keepIn X.K (.ref C) = true) (up : Raises X (.ref C)) (glob : Gl X x)
    (plain : (x == ("__debug__" : Str)) = false := by decide) : PMk X (.Call (.Name x p) [] [] pos) (fun _ H Q => Q (.ref C) none H) := fun pins s sg H Q I want => by
  obtain ⟨mro, ns, cn, qn, bases, dct, slots, subs, abst, coll, dd, a0, a1, a2, a3, a5, mN, look, space, noInit, tail⟩ := exc_obj I.kIn known
  have made := PySem.wpAny_call_exc_subT (prog := X.prog) (w := X.w) (A := X.A) (Q := MkP X pins sg Q) (E := X.xe) (rest := []) facts tail look space noInit (fun h' e new => mk_of (I.tok _) new up want (I.hok.gone new.new)) (Nat.zero_le _)
  exact wpAny_Call_Name_kw (ld_glob (pos := p) (E := X.xe) I glob here (callWith_K0 (first := []) I.kIn kept made) plain)

section
variable {K : PySem.W.Frag} {B F F0 : Hp} {ro : Ro} {ka k1 k2 k3 kr : Cells} {ta : List (V × W)} {sg : L2.St} {H H' : Hp} {te tf tg : TE} {tr : TA} {tt : TT} {w x y z : W} {n : Nd} {C dx a : Addr} {fs : List (Str × D)} {b : Bool} {P : L2.St → Hp → Prop}
theorem mk1_of {fld : Str} {d : D} {Q : XK} (ha : EvA K tr ro ka [.val d] k1) (T : OexC K C) (hno : findIn K (.ref C) fld = some none) (e : En K B F0 ro ka ta sg H)
    (q : ∀ dx H', En K B F0 ro (k1 ++ [(dx, .xd [(fld, d)])]) ta sg H' → Q (.ref C) (some dx) H') : tMkO C (spI1 K C fld) [] tr sg H Q := ha B F0 ta sg H _ e fun vs H1 hl e1 => by
  match vs, hl with
  | [v], _ =>
    refine ⟨by show 1 ≤ 1000; omega, fun a hna => ⟨a, v, rfl, T, hno, upd_same, fun dd hd hne => ⟨rfl, dd, [(fld, v)], upd_same, ?_, ?_, ?_⟩⟩⟩
    · rw [upd_ne hne, upd_same]
    · rwa [upd_ne hne] at hd
    · have hd1 : H1 dd = none := by rwa [upd_ne hne] at hd
      have eH : upd (del (upd (upd (upd H1 a (exo a C none)) dd (exd dd [(fld, v)])) a (exo a C (some dd))) a) dd (.xd [(fld, v)]) = upd H1 dd (.xd [(fld, v)]) := by
        funext b
        by_cases h1 : b = dd
        · subst h1
          rw [upd_same, upd_same]
        · rw [upd_ne h1, upd_ne h1]
          by_cases h2 : b = a
          · subst h2
            rw [del_same, hna]
          · rw [del_ne h2, upd_ne h2, upd_ne h1, upd_ne h2]
      rw [eH]
      obtain ⟨F, g, e1⟩ := e1
      have hv : WOk K B F v (.val d) := e1.tm _ (List.mem_append_left _ List.mem_cons_self)
      exact q dd _ ⟨F, g, (e1.cell (o := .xd [(fld, v)]) hd1 (n := .xd [(fld, d)]) ⟨_, upd_same, v, [], rfl, hv, rfl⟩).held fun p hp => List.mem_append_right _ hp⟩
theorem En.leaveX (e : En K B F0 ro ka ta sg H) : En K B F0 [] ka [] [] H :=
  let ⟨F, g, q⟩ := e
  ⟨F, g, (q.frame (ro' := []) (sg' := []) rfl fun i w h => by simp at h).held fun p hp => by cases hp⟩
theorem g_raise1 {fld : Str} {d : D} {out : Out → Cells → Prop} {E : XK} (hX : RxOk K B F0 out E) (ha : EvA K tr ro ka [.val d] k1) (T : OexC K C) (hno : findIn K (.ref C) fld = some none) (o : out (.exc C [(fld, d)]) k1) :
    Gp K B F0 ta (fun σ H => tMkO C (spI1 K C fld) [] tr σ H fun cls dd H' => E cls dd H') ro ka := fun sg H e => mk1_of ha T hno e fun dx H' e' => hX.1 C _ k1 dx H' o e'.leaveX
theorem g_raise0 {out : Out → Cells → Prop} {E : XK} (hX : RxOk K B F0 out E) (o : out (.exc0 C) ka) : Gp K B F0 ta (fun σ H => E (.ref C) none H) ro ka := fun sg H e => hX.2 C ka H o e.leaveX

/-! ### try -/
/-- what is wished of an exception, whatever the slots hold -/
def XW (n : Nat) (Wx : WX) : XK := fun cls d H => ∀ σ : L2.St, σ.length = n → Wx cls d σ H
theorem pass_xw {X : Cx} {Wx : WX} (tk : Takes X Wx) : Passes (L2.CX X.prog X.w) X (XW X.N.length Wx) := fun _ σ _ _ e s' I c => tk e s' (XE.of_call I (fun _ _ _ h => h σ I.len) c)
theorem xw_as {c : Value} {i : Nat} {ts : Addr → Value → Option Addr → TS} {Wout : WX} {De : Ends} (hx : exmOne K (.ref C) c = some true)
    (h : ∀ a, Gp K B F0 ta (ts a (.ref C) (some dx) { nx := fun σ' H' => De.nx (σ'.set i none) H', rt := De.rt, bk := fun σ' H' => De.bk (σ'.set i none) H', ct := fun σ' H' => De.ct (σ'.set i none) H' }) ((List.replicate ro.length none).set i (some (.val (.adr a)))) ka)
    (e : En K B F0 ro ka ta sg H) : XW ro.length (wAs K c i ts Wout De) (.ref C) (some dx) H := fun σ hσ => ⟨true, hx, fun _ a _ => by
      refine h a _ _ ?_
      obtain ⟨F, g, e⟩ := e
      have e2 := e.frame (ro' := List.replicate ro.length none) (sg' := σ) (by rw [List.length_replicate, hσ]) fun i w q => by
        rw [List.getElem?_replicate] at q
        split at q <;> cases q
      exact En.setA ⟨F, g, e2⟩ i a, fun z => by cases z⟩
/-- e.f of the exception -/
theorem ev_xf {f : Str} {d : D} {j : Nat} (he : EvD K te ro ka (.val (.adr a)) k1) (hj : k1[j]? = some (dx, .xd fs)) (hd : fs.lookup f = some d) : EvD K (tXf a (.ref C) (some dx) C f te) ro ka (.val d) k1 := fun B F0 ta sg H Q e q => he B F0 ta sg H _ e fun v H1 e1 => by
  have hv := e1.tm_adr List.mem_cons_self
  subst hv
  obtain ⟨F, g, e1⟩ := e1
  obtain ⟨_, _, xs, hx, rx⟩ := e1.ce _ (List.mem_of_getElem? hj)
  obtain ⟨v, l, rv⟩ := rpf_lookup rx hd
  exact ⟨rfl, rfl, dx, xs, v, rfl, hx, l, q v H1 ⟨F, g, (e1.held (ta' := ta) fun p hp => List.mem_cons_of_mem _ hp).push rv⟩⟩

/-! ### conversions -/
def rTupU (K : PySem.W.Frag) : List V → Hp → VK → Prop := fun xs H Q => ∃ p ys, xs = [.ref p] ∧ ((SqL K H p ys ∧ ∀ l, H l = none → Q (.ref l) (upd H l (.tup ys))) ∨ (SqT K H p ys ∧ Q (.ref p) H))
def rLstU (K : PySem.W.Frag) : List V → Hp → VK → Prop := fun xs H Q => ∃ p ys, xs = [.ref p] ∧ (SqL K H p ys ∨ SqT K H p ys) ∧ ∀ l, H l = none → Q (.ref l) (upd H l (.lst ys))
def rIntU : List V → Hp → VK → Prop := fun xs H Q => (∃ i, xs = [.int i] ∧ Q (.int i) H) ∨ ∃ k, xs = [.bl k] ∧ Q (.int (if k then 1 else 0)) H
def rAbsU : List V → Hp → VK → Prop := fun xs H Q => ∃ i, xs = [.int i] ∧ Q (.int (if i < 0 then -i else i)) H
theorem call_tupU {X : Cx} : CallR X (.type "tuple") (rTupU X.K) := call_tuple_of
theorem call_lstU {X : Cx} : CallR X (.type "list") (rLstU X.K) := call_list_of
theorem call_intU {X : Cx} : CallR X (.type "int") rIntU := call_int1
theorem call_absU {X : Cx} : CallR X (.builtin "abs") rAbsU := call_abs
theorem rpl_imm {F G : Hp} : ∀ {ds : List D} {xs : List V}, ds.all imm = true → RpL K F ds xs → RpL K G ds xs
  | [], _, _, h => h
  | d :: ds, xs, hi, h => by
    obtain ⟨x, ys, rfl, h1, h2⟩ := h
    rw [List.all_cons, Bool.and_eq_true] at hi
    exact ⟨x, ys, rfl, imm_any hi.1 h1, rpl_imm hi.2 h2⟩
/-- a sequence's items may be told as frozen -/
def SqF (b : Bool) (ds : List D) : Prop := b = false ∨ ds.all imm = true
theorem SqF.to {ds : List D} {xs : List V} (h : SqF b ds) (r : RpL K (if b then uni B F else F) ds xs) : RpL K F ds xs := by
  rcases h with h | h
  · subst h; exact r
  · exact rpl_imm h r
theorem rc_tupL {ds : List D} (l : Lk ka w false ds b) (hf : SqF b ds) : RcD K (rTupU K) ka [w] (.val (.tup ds)) := fun B F0 ro ta sg H us Q e hl hm q => by
  obtain ⟨u, rfl, hu⟩ := zip_one hl hm
  obtain ⟨F, g, e⟩ := e
  obtain ⟨a, xs, rfl, h1, h2⟩ := l.get e (e.tm _ hu)
  have r2 := hf.to h2
  refine ⟨a, xs, rfl, .inl ⟨.inl h1, fun p hp => q _ _ ?_⟩⟩
  obtain ⟨e4, g4⟩ := e.lay (o := .tup xs) hp rfl
  exact ⟨_, g.trans g4, e4.push ⟨p, _, rfl, .inl (.inl upd_same), RpL.mono g4.sub.exz e.nz _ _ r2⟩⟩
theorem rc_tupT {ds : List D} : RcD K (rTupU K) ka [.val (.tup ds)] (.val (.tup ds)) := fun B F0 ro ta sg H us Q e hl hm q => by
  obtain ⟨u, rfl, hu⟩ := zip_one hl hm
  obtain ⟨F, g, e⟩ := e
  obtain ⟨a, xs, rfl, h1, h2⟩ := Lk.vt.get e (e.tm _ hu)
  exact ⟨a, xs, rfl, .inr ⟨h1, q _ _ ⟨F, g, e.push (e.tm _ hu)⟩⟩⟩
theorem rcn_lst {t : Bool} {ds : List D} (l : Lk ka w t ds b) (hf : SqF b ds) : RcN K (rLstU K) ka [w] (.lst ds) := fun B F0 ro ta sg H us Q e hl hm q => by
  obtain ⟨u, rfl, hu⟩ := zip_one hl hm
  obtain ⟨F, g, e⟩ := e
  obtain ⟨a, xs, rfl, h1, h2⟩ := l.at e (e.tm _ hu)
  have r2 := hf.to h2
  exact ⟨a, xs, rfl, h1, fun p hp => q p _ ⟨F, g, e.cell (o := .lst xs) hp (n := .lst ds) ⟨_, upd_same, r2⟩⟩⟩
theorem rc_int {i : Int} : RcD K rIntU ka [.val (.int i)] (.val (.int i)) := fun B F0 ro ta sg H us Q e hl hm q => by
  obtain ⟨u, rfl, hu⟩ := zip_one hl hm
  obtain rfl := e.tm_int hu
  exact .inl ⟨i, rfl, q _ _ (e.push_imm fun _ => rfl)⟩
theorem rc_abs {i : Int} : RcD K rAbsU ka [.val (.int i)] (.val (.int (if i < 0 then -i else i))) := fun B F0 ro ta sg H us Q e hl hm q => by
  obtain ⟨u, rfl, hu⟩ := zip_one hl hm
  obtain rfl := e.tm_int hu
  exact ⟨i, rfl, q _ _ (e.push_imm fun _ => rfl)⟩
theorem rpl_bls {F : Hp} : ∀ {bs : List Bool} {xs : List V}, RpL K F (bs.map D.bl) xs → xs = bs.map V.bl
  | [], _, h => h
  | b :: bs, xs, h => by
    obtain ⟨x, ys, rfl, h1, h2⟩ := h
    rw [show x = V.bl b from h1, rpl_bls h2]
    rfl
theorem rc_all {bs : List Bool} (l : Lk ka w false (bs.map D.bl) b) : RcD K (rAll K) ka [w] (.val (.bl (bs.all id))) := fun B F0 ro ta sg H us Q e hl hm q => by
  obtain ⟨u, rfl, hu⟩ := zip_one hl hm
  obtain ⟨F, g, e⟩ := e
  obtain ⟨a, xs, rfl, h1, h2⟩ := l.get e (e.tm _ hu)
  have := rpl_bls h2
  subst this
  exact ⟨a, bs, rfl, .inl h1, q _ _ ⟨F, g, e.push rfl⟩⟩
theorem rc_any {bs : List Bool} (l : Lk ka w false (bs.map D.bl) b) : RcD K (rAny K) ka [w] (.val (.bl (bs.any id))) := fun B F0 ro ta sg H us Q e hl hm q => by
  obtain ⟨u, rfl, hu⟩ := zip_one hl hm
  obtain ⟨F, g, e⟩ := e
  obtain ⟨a, xs, rfl, h1, h2⟩ := l.get e (e.tm _ hu)
  have := rpl_bls h2
  subst this
  exact ⟨a, bs, rfl, .inl h1, q _ _ ⟨F, g, e.push rfl⟩⟩
/-- a sign in a text -/
theorem rv_inS {c : Nat} {s : Str} : RvD K rInS ka (.val (.str ⟨#[c]⟩)) (.val (.str s)) (.val (.bl (decide (c ∈ s.cps.toList)))) := fun B F0 ro ta sg H u v Q e h1 h2 q =>
  ⟨c, s, e.tm_str h1, e.tm_str h2, q _ _ (e.push_imm fun _ => rfl)⟩
/-- list * number, the list a cell -/
theorem evn_opC {r : R2} {m : Nd} {d : D} (ha : EvN K te ro ka n k1) (hb : EvD K tf ro k1 (.val d) k2) (hr : ∀ a, RvN K r (k2 ++ [(a, n)]) (.val (.adr a)) (.val d) m) : EvN K (tOp r te tf) ro ka m k2 := fun B F0 ta sg H Q e q =>
  ha B F0 ta sg H _ e fun a H1 e1 => by
    refine hb.fr [(a, n)] B F0 ((.ref a, .val (.adr a)) :: ta) sg H1 _ (e1.push_imm fun _ => rfl) fun v H2 e2 => ?_
    refine hr a B F0 ro _ sg H2 (.ref a) v Q e2 (List.mem_cons_of_mem _ List.mem_cons_self) List.mem_cons_self fun t H3 e3 => ?_
    refine q t H3 ((e3.less ?_).held fun p hp => List.mem_cons_of_mem _ (List.mem_cons_of_mem _ hp))
    exact (List.sublist_append_left k2 _).append (List.Sublist.refl _)
theorem rvn_rep {j : Nat} {ds : List D} {i : Int} (hj : ka[j]? = some (a, .lst ds)) (h0 : 0 ≤ i) (h1 : i ≤ 1000) (h2 : ds.length ≤ 1000) : RvN K rRep ka (.val (.adr a)) (.val (.int i)) (.lst (List.replicate i.toNat ds).flatten) := fun B F0 ro ta sg H u v Q e hu hv q => by
  obtain rfl := e.tm_adr hu
  obtain rfl := e.tm_int hv
  obtain ⟨F, g, e⟩ := e
  obtain ⟨xs, hx, rx⟩ := e.rd_lst hj
  refine ⟨a, i, xs, rfl, rfl, hx, by omega, by omega, ?_, fun p hp => q p _ ⟨F, g, e.cell (o := .lst (List.replicate i.toNat xs).flatten) hp (n := .lst (List.replicate i.toNat ds).flatten) ⟨_, upd_same, rpl_repl rx _⟩⟩⟩
  rw [rpl_len rx]
  have h3 : i.toNat ≤ 1000 := by omega
  exact Nat.le_trans (Nat.mul_le_mul h2 h3) (by decide)
theorem rpl_ints {F : Hp} : ∀ (zs : List Int), RpL K F (zs.map D.int) (zs.map V.int)
  | [] => rfl
  | z :: zs => ⟨.int z, _, rfl, rfl, rpl_ints zs⟩
/-- list(range(i, j)) -/
theorem evn_lstRg {i j : Int} (ha : EvD K te ro ka (.val (.int i)) k1) (hb : EvD K tf ro k1 (.val (.int j)) k2) (h : RgOk i j) : EvN K (tLstRg (tRg2 te tf)) ro ka (.lst ((List.range (j - i).toNat).map fun m : Nat => .int (i + m))) k2 := fun B F0 ta sg H Q e q =>
  ha B F0 ta sg H _ e fun u H1 e1 => hb B F0 _ sg H1 _ e1 fun v H2 e2 => by
    have hu := e2.tm_int (v := u) (i := i) (List.mem_cons_of_mem _ List.mem_cons_self)
    have hv := e2.tm_int (v := v) (i := j) List.mem_cons_self
    refine ⟨i, j, hu, hv, h, fun p hp => q p _ ?_⟩
    obtain ⟨F, g, e2⟩ := e2
    refine ⟨F, g, (e2.cell (o := .lst (rgV i j)) hp (n := .lst _) ⟨_, upd_same, ?_⟩).held fun p hp => List.mem_cons_of_mem _ (List.mem_cons_of_mem _ hp)⟩
    have := rpl_ints (K := K) (F := F) ((List.range (j - i).toNat).map fun m : Nat => i + (m : Int))
    rw [List.map_map, List.map_map] at this
    exact this
/-- xs[::-1] of a list -/
theorem evn_revL {ds : List D} (ha : EvD K te ro ka w k1) (l : Lk k1 w false ds b) (hf : SqF b ds) : EvN K (tRevL K te) ro ka (.lst ds.reverse) k1 := fun B F0 ta sg H Q e q => ha B F0 ta sg H _ e fun u H1 e1 => by
  obtain ⟨F, g, e1⟩ := e1
  obtain ⟨a, xs, rfl, h1, h2⟩ := l.get e1 (e1.tm _ List.mem_cons_self)
  exact ⟨a, xs, rfl, .inl h1, fun p hp => q p _ ⟨F, g, (e1.cell (o := .lst xs.reverse) hp (n := .lst ds.reverse) ⟨_, upd_same, rpl_rev (hf.to h2)⟩).held fun p hp => List.mem_cons_of_mem _ hp⟩⟩
/-- a slot's cell is frozen -/
theorem Gp.frz {i j : Nat} {ds : List D} (hi : ro[i]? = some (some (.val (.adr a)))) (hj : ka[j]? = some (a, .lst ds)) (h : Gp K B F0 ta P (ro.set i (some (.val (.lst ds)))) (ka.eraseIdx j)) : Gp K B F0 ta P ro ka := fun sg H e => by
  have hp : (ka.eraseIdx j ++ [(a, Nd.lst ds)]).Perm ka := by
    have hlt := (List.getElem?_eq_some_iff.mp hj).1
    have h2 : ka[j] = (a, Nd.lst ds) := (List.getElem?_eq_some_iff.mp hj).2
    have e3 : ka = ka.take j ++ (a, Nd.lst ds) :: ka.drop (j + 1) := by
      rw [← h2, List.getElem_cons_drop, List.take_append_drop]
    rw [List.eraseIdx_eq_take_drop_succ]
    refine List.Perm.trans List.perm_append_comm ?_
    show (((a, Nd.lst ds)) :: (ka.take j ++ ka.drop (j + 1))).Perm ka
    refine List.Perm.trans List.perm_middle.symm ?_
    rw [← e3]
  obtain ⟨F, g, e2⟩ := (e.perm hp).freeze_l
  refine h sg H ⟨F, g, (e2.frame (ro' := ro.set i (some (.val (.lst ds)))) (sg' := sg) (by rw [List.length_set]; exact e2.ln) fun k w q => ?_).held fun p hp => List.mem_cons_of_mem _ hp⟩
  by_cases hik : i = k
  · subst hik
    have hl := (List.getElem?_eq_some_iff.mp hi).1
    rw [List.getElem?_set_self hl] at q
    cases q
    obtain ⟨v, h1, h2⟩ := e2.sl i _ hi
    obtain rfl : v = .ref a := h2
    exact ⟨.ref a, h1, e2.tm _ List.mem_cons_self⟩
  · rw [List.getElem?_set_ne hik] at q
    exact e2.sl k w q
end
end DL

/-! DK: what the head tells of a text's defs and classes (own work). -/
namespace DL
open PySem L2 PySem.W

/-- the getter of the property m of the class at C -/
def pga (K : PySem.W.Frag) (C : Addr) (m : Str) : Addr := match recIn K (He.ma K C m) "property" with
  | some (.ref g :: _) => g
  | _ => 0
/-! the picture of a def: all that the text fixes of it -/
structure Pic where
  nm : Str
  qn : Str
  pars : Arguments
  code : FuncBody
  sco : Scope
  env : Addr × Addr
  clo : List (Str × Addr)
def picOf (f : FuncData) : Pic := ⟨f.name, f.qualname, f.params, f.body, f.scope, (f.globals, f.builtins), f.closure⟩
def asFn : Data → Option FuncData
  | .func f => some f
  | _ => none
def fnAt (K : PySem.W.Frag) (a : Addr) : Option FuncData := (K.lookup a).bind fun o => asFn o.data
theorem asFn_some {dt : Data} {f : FuncData} (h : asFn dt = some f) : dt = .func f := by
  cases dt <;> first | (cases h; rfl) | cases h
theorem fnAt_some {K : PySem.W.Frag} {a : Addr} {f : FuncData} (h : fnAt K a = some f) : ∃ o, K.lookup a = some o ∧ o.data = .func f := by
  obtain ⟨o, h1, h2⟩ := Option.bind_eq_some_iff.mp h
  exact ⟨o, h1, asFn_some h2⟩
/-- a def of the text: where it stands, its picture, its defaults -/
structure Df where
  at_ : PySem.W.Frag → Addr
  name : Str
  qual : Str
  params : Arguments
  body : List Stmt
  scope : Scope
  dfs : PySem.W.Frag → List V
def Df.pic (d : Df) : Pic := ⟨d.name, d.qual, d.params, .stmts d.body, d.scope, (mainGlobals, builtinsNs), []⟩
def Df.good (K : PySem.W.Frag) (d : Df) : Bool := keepIn K (.ref (d.at_ K)) && (fnAt K (d.at_ K)).any fun f => codeIn K f.code d.qual && (He.dflB K f.defaults (d.dfs K) && He.kwdB K f.kwdefaults [])
theorem Df.known {K : PySem.W.Frag} {d : Df} (e : (fnAt K (d.at_ K)).map picOf = some d.pic) (c : d.good K = true) : ∃ fd, FunD K d.name d.qual d.params d.body d.scope (d.dfs K) [] (d.at_ K) fd := by
  have c' := Bool.and_eq_true_iff.mp c
  cases hf : fnAt K (d.at_ K) with
  | none =>
    rw [hf] at e
    cases e
  | some f =>
    rw [hf] at e c'
    have c2 : (codeIn K f.code d.qual && (He.dflB K f.defaults (d.dfs K) && He.kwdB K f.kwdefaults [])) = true := c'.2
    have c3 := Bool.and_eq_true_iff.mp c2
    have c4 := Bool.and_eq_true_iff.mp c3.2
    obtain ⟨o, lk, hd⟩ := fnAt_some hf
    have same : f = PySem.W.fnOf d.name d.qual d.params d.body d.scope f.defaults f.kwdefaults f.doc f.pyModule f.annotations f.code f.closureTuple := by
      have e1 : picOf f = d.pic := Option.some.inj e
      have n := congrArg Pic.nm e1
      have qn := congrArg Pic.qn e1
      have ps := congrArg Pic.pars e1
      have bd := congrArg Pic.code e1
      have sc := congrArg Pic.sco e1
      have ev := congrArg Pic.env e1
      have cl := congrArg Pic.clo e1
      have g := congrArg Prod.fst ev
      have bt := congrArg Prod.snd ev
      cases f
      cases n; cases qn; cases ps; cases bd; cases sc; cases cl; cases g; cases bt
      rfl
    have lk2 : K.lookup (d.at_ K) = some ⟨o.cls, o.dict, .func f, o.slots⟩ := by
      rw [lk, ← hd]
    exact ⟨f, ⟨o.cls, o.dict, f.defaults, f.kwdefaults, f.doc, f.pyModule, f.annotations, f.code, f.closureTuple, o.slots, same, lk2, c3.1, He.dflB_ok c4.1, He.kwdB_ok c4.2⟩, c'.1⟩
abbrev Fx := PySem.W.Frag → Bool
/-- all facts and all defs of a text, looked at in one heap -/
abbrev AlY : Type := Bool × List (Option Pic)
def lookY (ex : List Fx) (fn : List Df) (K : PySem.W.Frag) : AlY := (ex.all (· K) && fn.all (Df.good K), fn.map fun d => (fnAt K (d.at_ K)).map picOf)
def dueY (fn : List Df) : AlY := (true, fn.map fun d => some d.pic)
def SaysY (ex : List Fx) (fn : List Df) (K : PySem.W.Frag) : Prop := lookY ex fn K = dueY fn
def obsYG (n : Nat) (ex : List Fx) (fn : List Df) (g : Addr → Option Obj) : AlY := lookY ex fn (He.frG g (He.asD g n))
def hookY (n : Nat) (ex : List Fx) (fn : List Df) : PySem.W.Hook :=
  { α := AlY, obs := fun s => obsYG n ex fn s.heap.get?, val := fun _ => dueY fn, says := fun _ h => ∃ K : PySem.W.Frag, K.In h ∧ SaysY ex fn K,
    of := fun _ _ e => ⟨_, He.frG_in, e⟩,
    keeps := fun _ _ _ w k => w.elim fun K z => ⟨K, PySem.W.Frag.In.keeps z.1 k, z.2⟩ }
theorem obsYG_eq {n : Nat} {ex : List Fx} {fn : List Df} {g : Addr → Option Obj} {s : Shared} (h : ∀ a, g a = s.heap.get? a) : obsYG n ex fn g = (hookY n ex fn).obs s :=
  congrArg (obsYG n ex fn) (funext h)
section
variable {ex : List Fx} {fn : List Df} {K : PySem.W.Frag}
theorem SaysY.both (c : SaysY ex fn K) : (∀ f ∈ ex, f K = true) ∧ ∀ d ∈ fn, Df.good K d = true := by
  have c1 : (ex.all (· K) && fn.all (Df.good K)) = true := congrArg Prod.fst c
  rw [Bool.and_eq_true, List.all_eq_true, List.all_eq_true] at c1
  exact c1
theorem SaysY.fact (c : SaysY ex fn K) (i : Nat) {f : Fx} (h : ex[i]? = some f := by rfl) : f K = true := c.both.1 f (List.mem_of_getElem? h)
theorem SaysY.def_ (c : SaysY ex fn K) (i : Nat) {d : Df} (h : fn[i]? = some d := by rfl) : ∃ fd, FunD K d.name d.qual d.params d.body d.scope (d.dfs K) [] (d.at_ K) fd := by
  refine Df.known ?_ (c.both.2 d (List.mem_of_getElem? h))
  have e := congrArg (fun z : AlY => z.2[i]?) c
  simp only [lookY, dueY, List.getElem?_map, h, Option.map_some, Option.some.injEq] at e
  exact e
end
/-! ### the facts, by Bool -/
section
variable {K : PySem.W.Frag} {C : Addr}
def fGlo (x : Str) : Fx := fun K => (He.Fa.glo x).ok K && keepIn K (.ref (He.ga K x))
def fFree (x : Str) : Fx := fun K => (He.Fa.free x).ok K
def fStr (x z : Str) : Fx := fun K => (He.Fa.str x z).ok K
def fInt (x : Str) (i : Int) : Fx := fun K => (He.Fa.int x i).ok K
def fCls (x : Str) : Fx := fun K => (He.Fa.cls x).ok K
def fMkr (x : Str) : Fx := fun K => (He.Fa.mkr x).ok K
def fNoat (x f : Str) : Fx := fun K => (He.Fa.noat x f).ok K
def fMeth (x m : Str) : Fx := fun K => (He.Fa.meth x m).ok K
def fSm (x m : Str) : Fx := fun K => He.eqO (findIn K (.ref (He.ga K x)) m) (some (some (.ref (He.ma K (He.ga K x) m)))) && isFn K (.ref (He.ma K (He.ga K x) m))
theorem sm_ok {x m : Str} (h : fSm x m K = true) : Sm K (He.ga K x) m (He.ma K (He.ga K x) m) := let ⟨a, b⟩ := He.ba h; ⟨He.eqO_ok a, b⟩
def fFn (x m : Str) : Fx := fun K => fnIn K (He.ma K (He.ga K x) m)
def fProp (x m : Str) : Fx := fun K => He.eqO (findIn K (.ref (He.ga K x)) m) (some (some (.ref (He.ma K (He.ga K x) m)))) && (He.eqO (specialIn K (.ref (He.ma K (He.ga K x) m)) "__get__") (some (some (.builtin "property.__get__"))) &&
  (decide (takesIn K (.ref (He.ma K (He.ga K x) m)) = some true) && (match recIn K (He.ma K (He.ga K x) m) "property" with
    | some (.ref _ :: _) => true
    | _ => false)))
theorem prop_ok {x m : Str} (h : fProp x m K = true) : PropOf K (He.ga K x) m (He.ma K (He.ga K x) m) (pga K (He.ga K x) m) := by
  obtain ⟨h1, h⟩ := He.ba h
  obtain ⟨h2, h⟩ := He.ba h
  obtain ⟨h3, h4⟩ := He.ba h
  refine ⟨He.eqO_ok h1, He.eqO_ok h2, of_decide_eq_true h3, ?_⟩
  unfold pga
  split at h4
  · rename_i a r q
    rw [q]
    exact ⟨r, rfl⟩
  · cases h4
def fClsI (x : Str) : Fx := fun K => (He.Fa.cls x).ok K && (He.eqO (findIn K (.ref (He.ga K x)) "__class__") (some (some (.builtin "object.__class__"))) && (He.eqO (specialIn K (.builtin "object.__class__") "__get__") (some (some (.builtin "getset_descriptor.__get__"))) &&
  (decide (takesIn K (.builtin "object.__class__") = some true) && decide (mroIn K (He.ga K x) (.type "object") = some true))))
theorem clsI_ok {x : Str} (h : fClsI x K = true) : ClsI K (He.ga K x) := by
  obtain ⟨h1, h⟩ := He.ba h
  obtain ⟨h2, h⟩ := He.ba h
  obtain ⟨h3, h⟩ := He.ba h
  obtain ⟨h4, h5⟩ := He.ba h
  exact ⟨He.cls_ok h1, He.eqO_ok h2, He.eqO_ok h3, of_decide_eq_true h4, of_decide_eq_true h5⟩
def fEqT (x : Str) : Fx := fun K => ["NoneType", "bool", "int", "str", "list", "tuple"].all fun T => decide (subIn K (.type T) (.ref (He.ga K x)) = some false)
theorem eqT_ok {x : Str} (h : fEqT x K = true) : EqT K (He.ga K x) := fun T hT => of_decide_eq_true (List.all_eq_true.mp h T hT)
def fNe (x : Str) : Fx := fun K => He.eqO (findIn K (.ref (He.ga K x)) "__ne__") (some (some (.builtin "object.__ne__"))) && decide (mroIn K (He.ga K x) (.type "object") = some true)
theorem ne_ok {x : Str} (h : fNe x K = true) : findIn K (.ref (He.ga K x)) "__ne__" = some (some (.builtin "object.__ne__")) ∧ mroIn K (He.ga K x) (.type "object") = some true := let ⟨a, b⟩ := He.ba h; ⟨He.eqO_ok a, of_decide_eq_true b⟩
def fBo (x : Str) (op : Operator) : Fx := fun K => selfFirst K (He.ga K x) && (fSm x (PySem.dunder op.info.2) K && He.eqO (findIn K (.ref (He.ga K x)) (dunderR op.info.2)) (some none))
theorem bo_ok {x : Str} {op : Operator} (h : fBo x op K = true) : Bo K (He.ga K x) op (He.ma K (He.ga K x) (PySem.dunder op.info.2)) := by
  obtain ⟨h1, h⟩ := He.ba h
  obtain ⟨h2, h3⟩ := He.ba h
  exact ⟨h1, sm_ok h2, He.eqO_ok h3⟩
def fBoT (x : Str) (op : Operator) (T : String) : Fx := fun K => (findIn K (.type T) (PySem.dunder op.info.2)).isSome && ((findIn K (.type T) (dunderR op.info.2)).isSome && decide (subIn K (.type T) (.ref (He.ga K x)) = some false))
theorem boT_ok {x : Str} {op : Operator} {T : String} (h : fBoT x op T K = true) : BoT K (He.ga K x) op T := by
  obtain ⟨h1, h⟩ := He.ba h
  obtain ⟨h2, h3⟩ := He.ba h
  exact ⟨Option.isSome_iff_exists.mp h1, Option.isSome_iff_exists.mp h2, of_decide_eq_true h3⟩
def fXc (x : Str) : Fx := fun K => xcB K (He.ga K x)
def fXi (x : Str) : Fx := fun K => He.eqO (findIn K (.ref (He.ga K x)) "__init__") (some (some (.ref (He.ma K (He.ga K x) "__init__")))) && decide (typeIn K (.ref (He.ma K (He.ga K x) "__init__")) = some (.type "function"))
theorem xi_ok {x : Str} (h : fXi x K = true) : findIn K (.ref (He.ga K x)) "__init__" = some (some (.ref (He.ma K (He.ga K x) "__init__"))) ∧ typeIn K (.ref (He.ma K (He.ga K x) "__init__")) = some (.type "function") := let ⟨a, b⟩ := He.ba h; ⟨He.eqO_ok a, of_decide_eq_true b⟩
def fX0 (x : Str) : Fx := fun K => (He.Fa.exc x).ok K
def fExm (x y : Str) (b : Bool) : Fx := fun K => (He.Fa.exm x y b).ok K
def fKit (t T : String) (b : Bool) : Fx := fun K => decide (kitOne K (.type t) (.type T) = some b)
theorem kit_ok {t T : String} {b : Bool} (h : fKit t T b K = true) : kitOne K (.type t) (.type T) = some b := of_decide_eq_true h
/-- is a t an own x -/
def fKitC (t : String) (x : Str) (b : Bool) : Fx := fun K => decide (kitOne K (.type t) (.ref (He.ga K x)) = some b)
theorem kitC_ok {t : String} {x : Str} {b : Bool} (h : fKitC t x b K = true) : kitOne K (.type t) (.ref (He.ga K x)) = some b := of_decide_eq_true h
/-- is an own y an own x -/
def fKitO (y x : Str) (b : Bool) : Fx := fun K => decide (kitOne K (.ref (He.ga K y)) (.ref (He.ga K x)) = some b)
theorem kitO_ok {y x : Str} {b : Bool} (h : fKitO y x b K = true) : kitOne K (.ref (He.ga K y)) (.ref (He.ga K x)) = some b := of_decide_eq_true h
def fKitT (y : Str) (T : String) (b : Bool) : Fx := fun K => decide (kitOne K (.ref (He.ga K y)) (.type T) = some b)
theorem kitT_ok {y : Str} {T : String} {b : Bool} (h : fKitT y T b K = true) : kitOne K (.ref (He.ga K y)) (.type T) = some b := of_decide_eq_true h
end
/-! ### words of the derivations -/
section
variable {X : Cx} {E : XK}
theorem pass_own {E₁ : Value → Shared → Prop} (hs : X.stack = X.env :: X.outer) (hf : X.env.frame = some X.env.locals) (hex : X.ex = []) (hx : X.xe = fun e s' => wpAny (model X.prog X.w) X.A (leaving X.env e) (fun _ s'' => L2.CX X.prog X.w X.outer X.H_0 X.s_0 E e s'') E₁ s') : Passes (L2.CX X.prog X.w) X E :=
  passes_call (takes_of hs hf hex hx) fun _ _ _ _ h => h
def rMulU : R2 := fun x y H Q => rI PySem.IntMulOk (fun i j => .int (i * j)) x y H Q ∨ rRep x y H Q
theorem op_mulU : OpR X (binaryOp .Mult) rMulU := OpR.or (opI fun _ _ _ _ _ _ _ hc q => PyProof.Rows.mul_int q hc) op_rep
def rInU (K : PySem.W.Frag) : R2 := fun x y H Q => rInS x y H Q ∨ rIn K false x y H Q
theorem op_inU : OpR X (compareOp .In) (rInU X.K) := op_inS.or op_in_seq
def rNiU (K : PySem.W.Frag) : R2 := fun x y H Q => rNotInS x y H Q ∨ rIn K true x y H Q
theorem op_niU : OpR X (compareOp .NotIn) (rNiU X.K) := op_notInS.or op_notIn_seq
end
end DL

/-! DL1: contracts by number of arguments, bundles for the printed derivations (own work). -/
namespace DL
open PySem L2 PySem.W
abbrev Oc := Out → Cells → Prop
def Ct1 (R : W → Cells → Oc → Prop) : Ct := fun ws ka out => ∃ a, ws = [a] ∧ R a ka out
def Ct2 (R : W → W → Cells → Oc → Prop) : Ct := fun ws ka out => ∃ a b, ws = [a, b] ∧ R a b ka out
def Ct3 (R : W → W → W → Cells → Oc → Prop) : Ct := fun ws ka out => ∃ a b c, ws = [a, b, c] ∧ R a b c ka out
def Ct4 (R : W → W → W → W → Cells → Oc → Prop) : Ct := fun ws ka out => ∃ a b c d, ws = [a, b, c, d] ∧ R a b c d ka out
def Ct5 (R : W → W → W → W → W → Cells → Oc → Prop) : Ct := fun ws ka out => ∃ a b c d e, ws = [a, b, c, d, e] ∧ R a b c d e ka out
theorem ct1_len {R} : ∀ ws ka out, Ct1 R ws ka out → ws.length = 1 := fun _ _ _ ⟨_, h, _⟩ => by rw [h]; rfl
theorem ct2_len {R} : ∀ ws ka out, Ct2 R ws ka out → ws.length = 2 := fun _ _ _ ⟨_, _, h, _⟩ => by rw [h]; rfl
theorem ct3_len {R} : ∀ ws ka out, Ct3 R ws ka out → ws.length = 3 := fun _ _ _ ⟨_, _, _, h, _⟩ => by rw [h]; rfl
theorem ct4_len {R} : ∀ ws ka out, Ct4 R ws ka out → ws.length = 4 := fun _ _ _ ⟨_, _, _, _, h, _⟩ => by rw [h]; rfl
theorem ct5_len {R} : ∀ ws ka out, Ct5 R ws ka out → ws.length = 5 := fun _ _ _ ⟨_, _, _, _, _, h, _⟩ => by rw [h]; rfl
/-- how a call ends: it comes back with d, the cells k; it raises -/
def Rt (d : D) (k : Cells) : Oc := fun o k' => o = .ret d ∧ k' = k
def Xt (C : Addr) (fs : List (Str × D)) (k : Cells) : Oc := fun o k' => o = .exc C fs ∧ k' = k
def X0 (C : Addr) (k : Cells) : Oc := fun o k' => o = .exc0 C ∧ k' = k
def Nt (n : Nd) (k : Cells) : Oc := fun o k' => ∃ a, o = .ret (.adr a) ∧ k' = k ++ [(a, n)]
section
variable {X : Cx} {k : Nat} {f C : Addr} {ps : List Str} {E : XK} {Ct' : Ct} {x m : Str} {p pos apos : Pos} {e o : Expr} {es : List Expr} {ta te to ti : TE} {t : TA}
abbrev rOwnL (C : Addr) (sp : Sp) (E : XK) : List V → Hp → VK → Prop := fun xs H Q => ∃ a dx fs, xs = [.ref a] ∧ H a = some (.ins C dx fs) ∧ sp xs H (fun v H' => ∃ n : Nat, v = .int n ∧ n ≤ 100000 ∧ Q v H') E
/-- an own error with one field -/
structure Xn (P : Program) (w : World) (K : PySem.W.Frag) (mg : Str → Option Value) (base : Heap) (C : Addr) (fld : Str) : Prop where
  xc : Xc K C
  no : findIn K (.ref C) fld = some none
  ex : ∃ fI fd x, findIn K (.ref C) "__init__" = some (some (.ref fI)) ∧ typeIn K (.ref fI) = some (.type "function") ∧ FnOk P w K mg base (L2.CX P w) 1 fI fd ["self", x] (spI1 K C fld) ∧ Binds K fd ["self", x] []
namespace Xn
variable {P : Program} {w : World} {K : PySem.W.Frag} {mg : Str → Option Value} {base : Heap} {C : Addr} {fld : Str}
noncomputable def fI (Z : Xn P w K mg base C fld) : Addr := Classical.choose Z.ex
noncomputable def fd (Z : Xn P w K mg base C fld) : FuncData := Classical.choose (Classical.choose_spec Z.ex)
noncomputable def px (Z : Xn P w K mg base C fld) : Str := Classical.choose (Classical.choose_spec (Classical.choose_spec Z.ex))
theorem all (Z : Xn P w K mg base C fld) : findIn K (.ref C) "__init__" = some (some (.ref Z.fI)) ∧ typeIn K (.ref Z.fI) = some (.type "function") ∧ FnOk P w K mg base (L2.CX P w) 1 Z.fI Z.fd ["self", Z.px] (spI1 K C fld) ∧ Binds K Z.fd ["self", Z.px] [] :=
  Classical.choose_spec (Classical.choose_spec (Classical.choose_spec Z.ex))
end Xn
theorem un_ow (m : Sm X.K C "__neg__" f) (F : Fn X.prog X.w X.K X.mg X.base k f ps Ct') (hr : Room k X.A) (hx : Passes (L2.CX X.prog X.w) X E) : UnR X (unaryOp .USub) (rOwn1 C (spC X.K Ct') E) := by
  obtain ⟨fd, F, b⟩ := F
  exact un_own m F hr b hx
theorem pe_owix (m : Sm X.K C "__getitem__" f) (hf : fnIn X.K f = true) (F : Fn X.prog X.w X.K X.mg X.base k f ps Ct') (hr : Room (k + 1) X.A) (hx : Passes (L2.CX X.prog X.w) X E) (ho : PE X o to) {i : Expr} (hi : PE X i ti)
    (hs : ∀ a u, subscripted i true (.ref a) u = runValue (.builtin "lifetime.subscript" ⟨[.ref a, u], []⟩) := by intro a u; with_unfolding_all rfl) : PE X (.Subscript o i pos) (tOp (rOwn2 C (spC X.K Ct') E) to ti) := by
  obtain ⟨fd, F, b⟩ := F
  exact pe_ownix m hf F hr b hx ho hi hs
theorem len_ow (m : Sm X.K C "__len__" f) (F : Fn X.prog X.w X.K X.mg X.base k f ps Ct') (hr : Room (k + 1) X.A) (hx : Passes (L2.CX X.prog X.w) X E) :
    CallR X (.builtin "len") (fun xs H Q => ∃ a dx fs, xs = [.ref a] ∧ H a = some (.ins C dx fs) ∧ spC X.K Ct' xs H (fun v H' => ∃ n : Nat, v = .int n ∧ n ≤ 100000 ∧ Q v H') E) := by
  obtain ⟨fd, F, b⟩ := F
  exact len_own m F hr b hx
theorem op_ow {op : Operator} (o : Bo X.K C op f) (F : Fn X.prog X.w X.K X.mg X.base k f ps Ct') (hr : Room k X.A) (hx : Passes (L2.CX X.prog X.w) X E) : OpR X (binaryOp op) (rOwnT2 X.K C op (spC X.K Ct') E) := by
  obtain ⟨fd, F, b⟩ := F
  exact opr_T (op_own o F hr b hx)
theorem eq_ow (m : Sm X.K C "__eq__" f) (F : Fn X.prog X.w X.K X.mg X.base k f ps Ct') (hr : Room k X.A) (hx : Passes (L2.CX X.prog X.w) X E) : OpR X (compareOp .Eq) (rOwnE2 X.K C (spC X.K Ct') E) := by
  obtain ⟨fd, F, b⟩ := F
  exact opr_E (eq_own m F hr b hx)
theorem ne_ow (m : Sm X.K C "__eq__" f) (n : findIn X.K (.ref C) "__ne__" = some (some (.builtin "object.__ne__")) ∧ mroIn X.K C (.type "object") = some true) (F : Fn X.prog X.w X.K X.mg X.base k f ps Ct') (hr : Room (k + 1) X.A) (hx : Passes (L2.CX X.prog X.w) X E) : OpR X (compareOp .NotEq) (rOwnN2 X.K C (spC X.K Ct') E) := by
  obtain ⟨fd, F, b⟩ := F
  exact opr_N (ne_own m n.1 n.2 F hr b hx)
end
end DL
namespace DL
open PySem L2 PySem.W
/-- a constant of the module -/
theorem pe_gv {X : Cx} {x : Str} {pos : Pos} {v : V} (hg : Gl X x) (h : ∃ u, X.mg x = some u ∧ RelV v u) (hd : (x == ("__debug__" : Str)) = false := by decide) : PE X (.Name x pos) (tC v) := let ⟨_, hm, r⟩ := h; pe_glob hg hm r hd
/-- what BlkOk asks, as one thing to be decided -/
def blkB (N : List Str) (sc scope : Scope) (own : List (Str × Nat)) : Bool :=
  decide (scope.kind = .function ∧ (∀ p ∈ own, N[p.2]? = some p.1) ∧ ∀ y ∈ scope.names, scope.names.lookup y.1 = some y.2 ∧ (y.2 = .free → sc.names.lookup y.1 = some .cell ∨ sc.names.lookup y.1 = some .free) ∧ (y.2 = .local ∨ y.2 = .cell → y.1 ∈ own.map (·.1) ∨ y.1 ∉ N))
theorem blk_ok {N : List Str} {sc scope : Scope} {own : List (Str × Nat)} (N' : List Str) (sc' : Scope) (eN : N = N') (eS : sc = sc') (h : blkB N' sc' scope own = true) : BlkOk N sc scope own :=
  let ⟨fn, at_, each⟩ := of_decide_eq_true h
  eN ▸ eS ▸ { kind := fn, uniq := fun y m => (each y m).1, ix := at_, free := fun y m => (each y m).2.1, own := fun y m => (each y m).2.2 }
end DL

/-! DM: shorter words (own work). -/
namespace DL
open PySem L2 PySem.W
section
variable {K : PySem.W.Frag} {B F F0 : Hp} {ro : Ro} {ka k1 k2 k3 kr : Cells} {ta : List (V × W)} {sg : L2.St} {H H' : Hp} {te tf tg : TE} {tr : TA} {tt tu : TT} {w x y z : W} {n m : Nd} {C dx a : Addr} {fs : List (Str × D)} {b : Bool} {P : L2.St → Hp → Prop} {De : Ends} {t u : TS} {E : XK}
theorem ea1 (h : EvD K te ro ka x k1) : EvA K (tCons te tNil) ro ka [x] k1 := ea_cons h ea_nil
theorem ea2 (h : EvD K te ro ka x k1) (h2 : EvD K tf ro k1 y k2) : EvA K (tCons te (tCons tf tNil)) ro ka [x, y] k2 := ea_cons h (ea1 h2)
theorem ea3 (h : EvD K te ro ka x k1) (h2 : EvD K tf ro k1 y k2) (h3 : EvD K tg ro k2 z k3) : EvA K (tCons te (tCons tf (tCons tg tNil))) ro ka [x, y, z] k3 := ea_cons h (ea2 h2 h3)
theorem EvA.to {ws ws' : List W} (h : EvA K tr ro ka ws k1) (e : ws = ws') : EvA K tr ro ka ws' k1 := e ▸ h
/-- the built-in type of data -/
def tyD : D → Option String
  | .non => some "NoneType" | .bl _ => some "bool" | .int _ => some "int" | .str _ => some "str" | .lst _ => some "list" | .tup _ => some "tuple"
  | _ => none
theorem tw_of {d : D} {T : String} (h : tyD d = some T) : Tw K ka (.val d) (.type T) := by
  cases d <;> cases h
  · exact .non
  · exact .bl
  · exact .int
  · exact .str
  · exact .tup .vt
  · exact .lst .vl
theorem ev_isi {T : String} {t : Value} (h : EvD K te ro ka w k1) (l : Tw K k1 w t) (e : kitOne K t (.type T) = some b) : EvD K (tCB (rIsi K) (tCons te (tCons (tC (.ty T)) tNil))) ro ka (.val (.bl b)) k1 := ev_cb (ea2 h ev_ty) (rc_isi l e)
theorem ev_isiC {C1 : Addr} {t : Value} (h : EvD K te ro ka w k1) (l : Tw K k1 w t) (e : kitOne K t (.ref C1) = some b) : EvD K (tCB (rIsi K) (tCons te (tCons (tC (.ref C1)) tNil))) ro ka (.val (.bl b)) k1 := ev_cb (ea2 h ev_ref) (rc_isiC l e)
theorem ev_len {t b : Bool} {ds : List D} (h : EvD K te ro ka w k1) (l : Lk k1 w t ds b) : EvD K (tCB (rLenU K) (tCons te tNil)) ro ka (.val (.int ds.length)) k1 := ev_cb (ea1 h) (rc_len l)
theorem ev_lenS {s : Str} (h : EvD K te ro ka (.val (.str s)) k1) (hs : s.length ≤ 100000) : EvD K (tCB (rLenU K) (tCons te tNil)) ro ka (.val (.int s.length)) k1 := ev_cb (ea1 h) (rc_lenS hs)
theorem ev_eq {d e : D} (h : EvD K te ro ka x k1) (h2 : EvD K tf ro k1 y k2) (l1 : Pk k2 x d) (l2 : Pk k2 y e) (p1 : pl 61 d = true) (p2 : pl 61 e = true) : EvD K (tOp (rEqP K false) te tf) ro ka (.val (.bl (eqD d e))) k2 := ev_op h h2 (rv_eqP l1 l2 p1 p2)
theorem ev_ne {d e : D} (h : EvD K te ro ka x k1) (h2 : EvD K tf ro k1 y k2) (l1 : Pk k2 x d) (l2 : Pk k2 y e) (p1 : pl 61 d = true) (p2 : pl 61 e = true) : EvD K (tOp (rEqP K true) te tf) ro ka (.val (.bl (!eqD d e))) k2 := ev_op h h2 (rv_neP l1 l2 p1 p2)
theorem ev_eqI {i j : Int} (h : EvD K te ro ka (.val (.int i)) k1) (h2 : EvD K tf ro k1 (.val (.int j)) k2) : EvD K (tOp (rEqP K false) te tf) ro ka (.val (.bl (i == j))) k2 := ev_eq h h2 .v .v rfl rfl
theorem ev_neI {i j : Int} (h : EvD K te ro ka (.val (.int i)) k1) (h2 : EvD K tf ro k1 (.val (.int j)) k2) : EvD K (tOp (rEqP K true) te tf) ro ka (.val (.bl (!(i == j)))) k2 := ev_ne h h2 .v .v rfl rfl
theorem ev_eqS {i j : Str} (h : EvD K te ro ka (.val (.str i)) k1) (h2 : EvD K tf ro k1 (.val (.str j)) k2) : EvD K (tOp (rEqP K false) te tf) ro ka (.val (.bl (i == j))) k2 := ev_eq h h2 .v .v rfl rfl
theorem ev_neS {i j : Str} (h : EvD K te ro ka (.val (.str i)) k1) (h2 : EvD K tf ro k1 (.val (.str j)) k2) : EvD K (tOp (rEqP K true) te tf) ro ka (.val (.bl (!(i == j)))) k2 := ev_ne h h2 .v .v rfl rfl
theorem ev_addI {i j : Int} (h : EvD K te ro ka (.val (.int i)) k1) (h2 : EvD K tf ro k1 (.val (.int j)) k2) : EvD K (tOp (rAddU K) te tf) ro ka (.val (.int (i + j))) k2 := ev_op h h2 rv_addI
theorem ev_subI {i j : Int} (h : EvD K te ro ka (.val (.int i)) k1) (h2 : EvD K tf ro k1 (.val (.int j)) k2) : EvD K (tOp rSubI te tf) ro ka (.val (.int (i - j))) k2 := ev_op h h2 rv_sub
theorem ev_mulI {i j : Int} (h : EvD K te ro ka (.val (.int i)) k1) (h2 : EvD K tf ro k1 (.val (.int j)) k2) (c : IntMulOk i j) : EvD K (tOp rMulU te tf) ro ka (.val (.int (i * j))) k2 := ev_op h h2 (rvd_l (rv_I c fun _ => rfl))
theorem ev_mulL {i j : Int} (h : EvD K te ro ka (.val (.int i)) k1) (h2 : EvD K tf ro k1 (.val (.int j)) k2) (c : Builtin.Int.intBits i ≤ 64 := by decide) : EvD K (tOp rMulU te tf) ro ka (.val (.int (i * j))) k2 := ev_mulI h h2 (.of_left c)
theorem ev_mulR {i j : Int} (h : EvD K te ro ka (.val (.int i)) k1) (h2 : EvD K tf ro k1 (.val (.int j)) k2) (c : Builtin.Int.intBits j ≤ 64 := by decide) : EvD K (tOp rMulU te tf) ro ka (.val (.int (i * j))) k2 := ev_mulI h h2 (.of_right c)
theorem ev_modI {i j : Int} (h : EvD K te ro ka (.val (.int i)) k1) (h2 : EvD K tf ro k1 (.val (.int j)) k2) (c : 0 < j) : EvD K (tOp rModI te tf) ro ka (.val (.int (i % j))) k2 := ev_op h h2 (rv_mod c)
theorem ev_divI {i j : Int} (h : EvD K te ro ka (.val (.int i)) k1) (h2 : EvD K tf ro k1 (.val (.int j)) k2) (c : CDiv i j) : EvD K (tOp rDivI te tf) ro ka (.val (.int (i / j))) k2 := ev_op h h2 (rv_div c)
theorem ev_powI {i j : Int} (h : EvD K te ro ka (.val (.int i)) k1) (h2 : EvD K tf ro k1 (.val (.int j)) k2) (c : CPow i j) : EvD K (tOp rPowI te tf) ro ka (.val (.int (i ^ j.toNat))) k2 := ev_op h h2 (rv_pow c)
theorem ev_lt {i j : Int} (h : EvD K te ro ka (.val (.int i)) k1) (h2 : EvD K tf ro k1 (.val (.int j)) k2) : EvD K (tOp rLtI te tf) ro ka (.val (.bl (decide (i < j)))) k2 := ev_op h h2 rv_lt
theorem ev_le {i j : Int} (h : EvD K te ro ka (.val (.int i)) k1) (h2 : EvD K tf ro k1 (.val (.int j)) k2) : EvD K (tOp rLeI te tf) ro ka (.val (.bl (decide (i ≤ j)))) k2 := ev_op h h2 rv_le
theorem ev_gt {i j : Int} (h : EvD K te ro ka (.val (.int i)) k1) (h2 : EvD K tf ro k1 (.val (.int j)) k2) : EvD K (tOp rGtI te tf) ro ka (.val (.bl (decide (j < i)))) k2 := ev_op h h2 rv_gt
theorem ev_ge {i j : Int} (h : EvD K te ro ka (.val (.int i)) k1) (h2 : EvD K tf ro k1 (.val (.int j)) k2) : EvD K (tOp rGeI te tf) ro ka (.val (.bl (decide (j ≤ i)))) k2 := ev_op h h2 rv_ge
theorem ev_int1 {i : Int} (h : EvD K te ro ka (.val (.int i)) k1) : EvD K (tCB rIntU (tCons te tNil)) ro ka (.val (.int i)) k1 := ev_cb (ea1 h) rc_int
theorem ev_addS {i j : Str} (h : EvD K te ro ka (.val (.str i)) k1) (h2 : EvD K tf ro k1 (.val (.str j)) k2) (hz : i.length + j.length ≤ 100000) : EvD K (tOp (rAddU K) te tf) ro ka (.val (.str (i ++ j))) k2 := ev_op h h2 (rv_addS hz)
theorem ev_ix {t b : Bool} {ds : List D} {i : Int} {d : D} (h : EvD K te ro ka w k1) (h2 : EvD K tf ro k1 (.val (.int i)) k2) (l : Lk k2 w t ds b) (hd : atI ds i = some d) : EvD K (tOp (rIx K) te tf) ro ka (part b d) k2 := ev_op h h2 (rv_ix l hd)
theorem ev_ixV {t : Bool} {ds : List D} {i : Int} {d : D} (h : EvD K te ro ka w k1) (h2 : EvD K tf ro k1 (.val (.int i)) k2) (l : Lk k2 w t ds false) (hd : atI ds i = some d) : EvD K (tOp (rIx K) te tf) ro ka (.val d) k2 := ev_ix h h2 l hd
theorem ev_ixS {s : Str} {i : Int} {c : Nat} (h : EvD K te ro ka (.val (.str s)) k1) (h2 : EvD K tf ro k1 (.val (.int i)) k2) (hs : s.length ≤ 100000) (hc : atI s.cps.toList i = some c) : EvD K (tOp (rIx K) te tf) ro ka (.val (.str ⟨#[c]⟩)) k2 := ev_op h h2 (rv_ixS hs hc)
theorem ev_inS {c : Nat} {s : Str} (h : EvD K te ro ka (.val (.str ⟨#[c]⟩)) k1) (h2 : EvD K tf ro k1 (.val (.str s)) k2) : EvD K (tOp (rInU K) te tf) ro ka (.val (.bl (decide (c ∈ s.cps.toList)))) k2 := ev_op h h2 (rvd_l rv_inS)
theorem rv_niS {c : Nat} {s : Str} : RvD K rNotInS ka (.val (.str ⟨#[c]⟩)) (.val (.str s)) (.val (.bl (!decide (c ∈ s.cps.toList)))) := fun B F0 ro ta sg H u v Q e h1 h2 q =>
  ⟨c, s, e.tm_str h1, e.tm_str h2, q _ _ (e.push_imm fun _ => rfl)⟩
theorem ev_niS {c : Nat} {s : Str} (h : EvD K te ro ka (.val (.str ⟨#[c]⟩)) k1) (h2 : EvD K tf ro k1 (.val (.str s)) k2) : EvD K (tOp (rNiU K) te tf) ro ka (.val (.bl (!decide (c ∈ s.cps.toList)))) k2 := ev_op h h2 (rvd_l rv_niS)
theorem rv_catT {ds es : List D} (hz : ds.length + es.length ≤ 100000) : RvD K (rAddU K) ka (.val (.tup ds)) (.val (.tup es)) (.val (.tup (ds ++ es))) := rvd_r (rvd_r (rvd_r fun B F0 ro ta sg H u v Q e h1 h2 q => by
  obtain ⟨F, g, e⟩ := e
  obtain ⟨a, xs, rfl, s1, r1⟩ := Lk.vt.get e (e.tm _ h1)
  obtain ⟨b, ys, rfl, s2, r2⟩ := Lk.vt.get e (e.tm _ h2)
  refine ⟨a, b, xs, ys, rfl, rfl, s1, s2, by rw [rpl_len r1, rpl_len r2]; exact Nat.le_trans hz (by decide), fun h0 => ?_, fun _ h0 => ?_, fun _ _ p hp => ?_⟩
  · have hd : ds = [] := List.eq_nil_of_length_eq_zero (by rw [← rpl_len r1, h0]; rfl)
    subst hd
    exact q _ _ ⟨F, g, e.push (e.tm _ h2)⟩
  · have hd : es = [] := List.eq_nil_of_length_eq_zero (by rw [← rpl_len r2, h0]; rfl)
    subst hd
    rw [List.append_nil] at q
    exact q _ _ ⟨F, g, e.push (e.tm _ h1)⟩
  · obtain ⟨e4, g4⟩ := e.lay (o := .tup (xs ++ ys)) hp rfl
    exact q _ _ ⟨_, g.trans g4, e4.push ⟨p, _, rfl, .inl (.inl upd_same), RpL.mono g4.sub.exz e.nz _ _ (rpl_app r1 r2)⟩⟩))
theorem ev_catT {ds es : List D} (h : EvD K te ro ka (.val (.tup ds)) k1) (h2 : EvD K tf ro k1 (.val (.tup es)) k2) (hz : ds.length + es.length ≤ 100000) : EvD K (tOp (rAddU K) te tf) ro ka (.val (.tup (ds ++ es))) k2 := ev_op h h2 (rv_catT hz)

/-! ### calls -/
/-- a contract that works on no cells -/
theorem ev_callP {Cc : Ct} {ws : List W} {d : D} (ha : EvA K tr ro ka ws k1) (hC : Cc ws [] (Rt d [])) : EvD K (tCall (spC K Cc) [] E tr) ro ka (.val d) k1 := ev_callF (k1 := []) (k2 := []) k1 ha hC fun _ _ h => h
/-- .. on all -/
theorem ev_callA {Cc : Ct} {ws : List W} {d : D} (ha : EvA K tr ro ka ws k1) (hC : Cc ws k1 (Rt d k2)) : EvD K (tCall (spC K Cc) [] E tr) ro ka (.val d) k2 := ev_call ha hC fun _ _ h => h
/-- .. on the first cell -/
theorem ev_call1 {Cc : Ct} {ws : List W} {d : D} (ha : EvA K tr ro ka ws ((a, n) :: kr)) (hC : Cc ws [(a, n)] (Rt d [(a, m)])) : EvD K (tCall (spC K Cc) [] E tr) ro ka (.val d) ((a, m) :: kr) := ev_callF (k1 := [(a, n)]) (k2 := [(a, m)]) kr ha hC fun _ _ h => h
theorem evn_callP {Cc : Ct} {ws : List W} (ha : EvA K tr ro ka ws k1) (hC : Cc ws [] (Nt m [])) : EvN K (tCall (spC K Cc) [] E tr) ro ka m k1 := evn_call (k1 := []) (k2 := []) k1 ha hC fun _ _ h => h
/-- the call's end is told by a word: any data, any cells -/
theorem sp_rel {Cc : Ct} {ws : List W} {out : Oc} {vs : List V} {Q : VK} (e : En K B F0 ro (ka ++ kr) (vs.zip ws ++ ta) sg H) (hl : vs.length = ws.length) (hC : Cc ws ka out) (ho : ∀ o k, out o k → ∃ d, o = .ret d)
    (q : ∀ d k2 v H', out (.ret d) k2 → En K B F0 ro (k2 ++ kr) ((v, .val d) :: ta) sg H' → Q v H') : spC K Cc vs H Q E := by
  obtain ⟨F, g, e⟩ := e
  refine ⟨off H ka, F, ws, ka, out, hC, hl, ⟨F, Gr.refl _ _, e.into (ro' := []) (sg' := []) (ta' := vs.zip ws) rfl (fun i w h => by simp at h) fun p hp => List.mem_append_left _ hp⟩, fun d' k v H' o ⟨F', g', e'⟩ => ?_, fun C fs k dx H' o _ => ?_, fun C k H' o _ => ?_⟩
  · obtain ⟨g2, e2⟩ := e.back g' e' (tb := (v, .val d') :: ta) fun p hp => by
      rcases List.mem_cons.mp hp with rfl | hp
      · exact .inr ⟨d', rfl, List.mem_cons_self⟩
      · exact .inl (List.mem_append_right _ hp)
    exact q d' k v H' o ⟨F', g.trans g2, e2⟩
  · obtain ⟨_, z⟩ := ho _ _ o
    cases z
  · obtain ⟨_, z⟩ := ho _ _ o
    cases z
theorem g_call {Cc : Ct} {ws : List W} {out : Oc} {i : Nat} (kr : Cells) (ha : EvA K tr ro ka ws (k1 ++ kr)) (hC : Cc ws k1 out) (ho : ∀ o k, out o k → ∃ d, o = .ret d) (k : ∀ d k2, out (.ret d) k2 → Gp K B F0 ta De.nx (ro.set i (some (.val d))) (k2 ++ kr)) :
    Gp K B F0 ta (tAsg (tCall (spC K Cc) [] E tr) (gName i) De) ro ka := fun sg H e => ha B F0 ta sg H _ e fun vs H1 hl e1 => by
  rw [List.append_nil]
  exact sp_rel e1 hl hC ho fun d k2 v H' o e2 => k d k2 o _ _ (e2.set i)
theorem q_call {Cc : Ct} {ws : List W} {out : Oc} {i : Nat} (kr : Cells) (ha : EvA K tr ro ka ws (k1 ++ kr)) (hC : Cc ws k1 out) (ho : ∀ o k, out o k → ∃ d, o = .ret d) (k : ∀ d k2, out (.ret d) k2 → Gp K B F0 ta (u De) (ro.set i (some (.val d))) (k2 ++ kr)) :
    Gp K B F0 ta (tSeq (tAsg (tCall (spC K Cc) [] E tr) (gName i)) u De) ro ka := g_call (De := { De with nx := u De }) kr ha hC ho k
/-! ### returns -/
/-- a new cell is handed back as data -/
theorem g_retL {out : Oc} {ds : List D} (hr : RtOk K B F0 out De.rt) (h : EvN K te ro ka (.lst ds) k1) (o : out (.ret (.lst ds)) k1) : Gp K B F0 ta (tRet te De) ro ka := g_ret hr h.lst o
/-- .. as a cell -/
theorem g_retC {out : Oc} (hr : RtOk K B F0 out De.rt) (h : EvN K te ro ka n k1) (o : ∀ a, out (.ret (.adr a)) (k1 ++ [(a, n)])) : Gp K B F0 ta (tRet te De) ro ka := fun sg H e => h B F0 ta sg H _ e fun a H1 e1 =>
  hr (.adr a) _ (.ref a) H1 (o a) ((e1.push_imm (v := .ref a) (w := .val (.adr a)) fun _ => rfl).leave)
/-- .. of which a word tells -/
theorem g_retR {out : Oc} {R : Nd → Cells → Prop} (hr : RtOk K B F0 out De.rt) (h : EvNR K te ro ka R) (o : ∀ n k, R n k → ∃ ds, n = .lst ds ∧ out (.ret (.lst ds)) k) : Gp K B F0 ta (tRet te De) ro ka := fun sg H e => h B F0 ta sg H _ e fun n k a H1 r e1 => by
  obtain ⟨ds, rfl, o⟩ := o n k r
  exact hr (.lst ds) k (.ref a) H1 o e1.freeze_l.leave
theorem g_asgNR {R : Nd → Cells → Prop} {i : Nat} (h : EvNR K te ro ka R) (k : ∀ n k1 a, R n k1 → Gp K B F0 ta De.nx (ro.set i (some (.val (.adr a)))) (k1 ++ [(a, n)])) : Gp K B F0 ta (tAsg te (gName i) De) ro ka := fun sg H e => h B F0 ta sg H _ e fun n k1 a H1 r e1 => k n k1 a r _ _ (e1.setA i a)
theorem q_asgNR {R : Nd → Cells → Prop} {i : Nat} (h : EvNR K te ro ka R) (k : ∀ n k1 a, R n k1 → Gp K B F0 ta (u De) (ro.set i (some (.val (.adr a)))) (k1 ++ [(a, n)])) : Gp K B F0 ta (tSeq (tAsg te (gName i)) u De) ro ka := g_asgNR (De := { De with nx := u De }) h k
/-- a return of a call's end -/
theorem g_retS {Cc : Ct} {ws : List W} {out out' : Oc} (kr : Cells) (hr : RtOk K B F0 out De.rt) (ha : EvA K tr ro ka ws (k1 ++ kr)) (hC : Cc ws k1 out') (ho : ∀ o k, out' o k → ∃ d, o = .ret d) (o : ∀ d k2, out' (.ret d) k2 → out (.ret d) (k2 ++ kr)) :
    Gp K B F0 ta (tRet (tCall (spC K Cc) [] E tr) De) ro ka := fun sg H e => ha B F0 ta sg H _ e fun vs H1 hl e1 => by
  rw [List.append_nil]
  exact sp_rel e1 hl hC ho fun d k2 v H' o' e2 => hr d _ v H' (o d k2 o') e2.leave
theorem Gp.perm (h : Gp K B F0 ta P ro k1) (s : k1.Perm ka) : Gp K B F0 ta P ro ka := fun sg H e => h sg H (e.perm s)
/-- slots are forgotten -/
theorem Gp.forget {ro' : Ro} (h : Gp K B F0 ta P ro' ka) (hl : ro'.length = ro.length) (hs : ∀ (i : Nat) w, ro'[i]? = some (some w) → ro[i]? = some (some w)) : Gp K B F0 ta P ro ka := fun sg H e => h sg H (e.forget hl hs)
end
end DL

/-! DN: comprehensions that map and choose; names, numbers (own work). -/
namespace DL
open PySem L2 PySem.W
section
variable {K : PySem.W.Frag} {ro : Ro} {ka k1 : Cells} {te : TE} {tt : TT} {wi : TI} {C : Cells → Prop} {j : Nat} {vs : List Nat} {α : Type}
theorem et_yes : EvT K tYes ro ka true ka := fun B F0 ta sg H Q e q => q H e
theorem take_succ_some {xs : List α} {i : Nat} {x : α} (h : xs[i]? = some x) : xs.take (i + 1) = xs.take i ++ [x] := by
  rw [List.take_succ, h]
  rfl
theorem evn_filt {xs : List α} {g : α → W} {f : α → D} {p : α → Bool} (h : EvI K wi ro ka (xs.map g) C k1) (hj : j ∈ vs) (hn : xs.length ≤ 1000000) (hC : C k1 ∧ ∀ x, C (k1 ++ [x]))
    (ht : ∀ x ∈ xs, EvT K tt ((wipeR ro vs).set j (some (g x))) k1 (p x) k1) (hs : ∀ x ∈ xs, p x = true → EvD K te ((wipeR ro vs).set j (some (g x))) k1 (.val (f x)) k1) : EvN K (tLc wi (gName j) tt te vs) ro ka (.lst ((xs.filter p).map f)) k1 := by
  refine evn_lc h hj (by rw [List.length_map]; exact hn) (fun i acc k => acc = ((xs.take i).filter p).map f ∧ k = k1) ⟨rfl, rfl⟩ (fun i acc k ⟨_, e⟩ => by subst e; exact hC) (fun i w acc k hw ⟨e1, e2⟩ => ?_) (fun acc k ⟨e1, e2⟩ => ⟨?_, e2⟩)
  · subst e1 e2
    rw [List.getElem?_map] at hw
    cases hx : xs[i]? with
    | none => rw [hx] at hw; cases hw
    | some x =>
      rw [hx] at hw
      cases hw
      have hm : x ∈ xs := List.mem_of_getElem? hx
      cases hp : p x with
      | false =>
        refine .inl ⟨k, hp ▸ ht x hm, ?_, rfl⟩
        rw [take_succ_some hx, List.filter_append]
        simp [hp]
      | true =>
        refine .inr ⟨k, k, f x, hp ▸ ht x hm, hs x hm hp, ?_, rfl⟩
        rw [take_succ_some hx, List.filter_append]
        simp [hp]
  · rw [e1, List.length_map, List.take_length]
theorem evn_map {xs : List α} {g : α → W} {f : α → D} (h : EvI K wi ro ka (xs.map g) C k1) (hj : j ∈ vs) (hn : xs.length ≤ 1000000) (hC : C k1 ∧ ∀ x, C (k1 ++ [x]))
    (hs : ∀ x ∈ xs, EvD K te ((wipeR ro vs).set j (some (g x))) k1 (.val (f x)) k1) : EvN K (tLc wi (gName j) tYes te vs) ro ka (.lst (xs.map f)) k1 := by
  have := evn_filt (tt := tYes) (p := fun _ => true) h hj hn hC (fun _ _ => et_yes) (fun x hx _ => hs x hx)
  have e : xs.filter (fun _ => true) = xs := List.filter_eq_self.mpr fun _ _ => rfl
  rwa [e] at this
end
/-! ### texts -/
theorem str_len (s : Str) : s.length = s.cps.toList.length := by
  show s.cps.size = _
  simp
theorem str_ext {s t : Str} (h : s.cps.toList = t.cps.toList) : s = t := by
  cases s with
  | mk a =>
    cases t with
    | mk b =>
      have : a = b := by
        have h2 : a.toList = b.toList := h
        exact Array.toList_inj.mp h2
      rw [this]
theorem str_nil {s : Str} (h : s.cps.toList = []) : s = ("" : Str) := str_ext h
def letL : List Nat := ("abcdefghijklmnopqrstuvwxyz" : Str).cps.toList
def digL : List Nat := ("0123456789" : Str).cps.toList
/-- is a text a name: its signs -/
def nmL : List Nat → Bool
  | [] => false
  | c :: r => decide ((c :: r).length ≤ 8) && (decide (c ∈ letL) && (c :: r).all fun x => decide (x ∈ letL) || decide (x ∈ digL))
def isNm (s : Str) : Bool := nmL s.cps.toList
theorem isNm_len {s : Str} (h : isNm s = true) : s.length ≤ 8 := by
  unfold isNm at h
  rw [str_len]
  cases hc : s.cps.toList with
  | nil => simp
  | cons c r =>
    rw [hc] at h
    unfold nmL at h
    rw [Bool.and_eq_true] at h
    exact of_decide_eq_true h.1
/-- .. data -/
def isNmD : D → Bool
  | .str s => isNm s
  | _ => false
/-- data that a name's test may be asked of -/
def nmOk : D → Prop
  | .str s => s.length ≤ 1000
  | d => tyD d ≠ none
/-- is it a whole number -/
def isWh : D → Bool
  | .int _ => true
  | _ => false
theorem at0 {β : Type} {c : β} {r : List β} : atI (c :: r) 0 = some c := atI_nat (j := 0) rfl
theorem atZ {β : Type} {xs : List β} {i : Int} {x : β} (h0 : 0 ≤ i) (h : xs[i.toNat]? = some x) : atI xs i = some x := by
  have := atI_nat h
  rwa [Int.toNat_of_nonneg h0] at this
/-! ### cuts -/
theorem six_nat {n : Nat} {i : Int} (h0 : 0 ≤ i) (h1 : i ≤ n) (d : Nat) : HT.sIx n d (some i) = i.toNat := by
  unfold HT.sIx
  simp only
  first
    | omega
    | (split <;> omega)
    | (repeat' split) <;> omega
theorem six_none {n d : Nat} : HT.sIx n d none = d := rfl
theorem cut_from {β : Type} {xs : List β} {i : Int} (h0 : 0 ≤ i) (h1 : i ≤ xs.length) : cutD xs (some i) none = xs.drop i.toNat := by
  unfold cutD
  rw [six_nat h0 h1, six_none]
  exact List.take_of_length_le (by rw [List.length_drop]; exact Nat.le_refl _)
theorem cut_to {β : Type} {xs : List β} {i : Int} (h0 : 0 ≤ i) (h1 : i ≤ xs.length) : cutD xs none (some i) = xs.take i.toNat := by
  unfold cutD
  rw [six_nat h0 h1, six_none, List.drop_zero, Nat.sub_zero]
theorem cut_len {β : Type} (xs : List β) (lo hi : Option Int) : (cutD xs lo hi).length ≤ xs.length := by
  unfold cutD
  rw [List.length_take, List.length_drop]
  omega
/-! ### texts in lists -/
theorem eqD_str {a b : Str} : eqD (.str a) (.str b) = (a == b) := rfl
def stD (ss : List Str) : List D := ss.map .str
theorem stD_len (ss : List Str) : (stD ss).length = ss.length := List.length_map ..
theorem pl_stD (ss : List Str) (n : Nat) : (stD ss).all (pl n) = true := List.all_eq_true.mpr fun d hd => by
  obtain ⟨s, _, rfl⟩ := List.mem_map.mp hd
  cases n <;> rfl
theorem eqL_stD : ∀ xs ys : List Str, eqL (stD xs) (stD ys) = decide (xs = ys)
  | [], [] => rfl
  | [], _ :: _ => rfl
  | _ :: _, [] => rfl
  | x :: xs, y :: ys => by
    have ih := eqL_stD xs ys
    show (eqD (.str x) (.str y) && eqL (stD xs) (stD ys)) = _
    rw [ih, eqD_str]
    by_cases h1 : x = y
    · subst h1
      by_cases h2 : xs = ys
      · subst h2; simp
      · simp [h2]
    · simp [h1]
theorem lk1 {β : Type} {f : Str} {v : β} : List.lookup f [(f, v)] = some v := by simp [List.lookup]
theorem part_of {b : Bool} {ds : List D} (h : SqF b ds) {d : D} (hd : d ∈ ds) : part b d = .val d := by
  rcases h with h | h
  · subst h; rfl
  · have := List.all_eq_true.mp h d hd
    unfold part
    rw [this]
    simp
section
variable {K : PySem.W.Frag} {ka kr : Cells} {w : W} {t b : Bool} {ds : List D}
theorem Lk.stay (l : Lk ka w t ds b) : Stay w ds ka := by
  cases l with
  | vl => trivial
  | vt => trivial
  | wl => trivial
  | wt => trivial
  | ce j h => exact List.mem_of_getElem? h
theorem Lk.app (l : Lk ka w t ds b) : Lk (ka ++ kr) w t ds b := l.mono _ (by
  have := l.stay
  unfold Stay at this ⊢
  split
  · rename_i a
    exact List.mem_append_left _ this
  · trivial)
theorem rc_tup (l : Lk ka w t ds b) (ht : t = true → b = false) (hf : SqF b ds) : RcD K (rTupU K) ka [w] (.val (.tup ds)) := by
  cases t with
  | false => exact rc_tupL l hf
  | true =>
    have := ht rfl
    subst this
    cases l with
    | vt => exact rc_tupT
end
theorem set_last {β : Type} (k : List β) (x y : β) : (k ++ [x]).set k.length y = k ++ [y] := by
  rw [List.set_append_right _ _ (Nat.le_refl _)]
  simp
theorem get_last {β : Type} (k : List β) (x : β) : (k ++ [x])[k.length]? = some x := by simp
theorem find_first {β : Type} {p : β → Bool} {ds : List β} {i : Nat} {d : β} (h : ∀ e ∈ ds.take i, p e = false) (hi : ds[i]? = some d) (hp : p d = true) : ds.find? p = some d := by
  have e : ds = ds.take i ++ d :: ds.drop (i + 1) := by
    have hl := (List.getElem?_eq_some_iff.mp hi).1
    have h2 : ds[i] = d := (List.getElem?_eq_some_iff.mp hi).2
    rw [← h2, List.getElem_cons_drop, List.take_append_drop]
  rw [e, List.find?_append, List.find?_eq_none.mpr (fun x hx => by rw [h x hx]; exact Bool.false_ne_true)]
  simp [hp]
theorem find_none {β : Type} {p : β → Bool} {ds : List β} (h : ∀ e ∈ ds, p e = false) : ds.find? p = none := List.find?_eq_none.mpr fun x hx => by rw [h x hx]; exact Bool.false_ne_true
end DL
namespace DL
open PySem L2 PySem.W
section
variable {K : PySem.W.Frag} {B F0 : Hp} {ro : Ro} {ka k1 k2 : Cells} {ta : List (V × W)} {tt : TT} {De : Ends} {t u : TS}
/-- an if whose ends meet again under a word -/
theorem q_whenI {b : Bool} (Inv : Ro → Cells → Prop) (h : EvT K tt ro ka b k1) (h1 : b = true → ∀ nx, (∀ ro2 ka2, Inv ro2 ka2 → Gp K B F0 ta nx ro2 ka2) → Gp K B F0 ta (t { De with nx := nx }) ro k1) (h2 : b = false → Inv ro k1) (k : ∀ ro2 ka2, Inv ro2 ka2 → Gp K B F0 ta (u De) ro2 ka2) : Gp K B F0 ta (tSeq (tIfS tt t tNext) u De) ro ka :=
  q_when h (fun hb => h1 hb _ k) fun hb => k _ _ (h2 hb)
theorem q_ifI {b : Bool} {t' : TS} (Inv : Ro → Cells → Prop) (h : EvT K tt ro ka b k1) (h1 : b = true → ∀ nx, (∀ ro2 ka2, Inv ro2 ka2 → Gp K B F0 ta nx ro2 ka2) → Gp K B F0 ta (t { De with nx := nx }) ro k1) (h2 : b = false → ∀ nx, (∀ ro2 ka2, Inv ro2 ka2 → Gp K B F0 ta nx ro2 ka2) → Gp K B F0 ta (t' { De with nx := nx }) ro k1) (k : ∀ ro2 ka2, Inv ro2 ka2 → Gp K B F0 ta (u De) ro2 ka2) : Gp K B F0 ta (tSeq (tIfS tt t t') u De) ro ka :=
  q_if h (fun hb => h1 hb _ k) fun hb => h2 hb _ k
end
/-! ### the pool of the laws -/
structure Pl where
  a : Int
  b : Int
  c : Int
def Pl.ds (p : Pl) : List D := [.int p.a, .int p.b, .int p.c]
structure Pl.Ok (p : Pl) (n : Int) : Prop where
  a0 : 0 ≤ p.a
  b0 : 0 ≤ p.b
  b1 : p.b < 1000000007
  c0 : 0 ≤ p.c
  c1 : p.c ≤ n
theorem Pl.Ok.up {p : Pl} {m n : Int} (h : p.Ok m) (l : m ≤ n) : p.Ok n := ⟨h.a0, h.b0, h.b1, h.c0, Int.le_trans h.c1 l⟩
def fldZ (z : Int) : Int := if z < 0 then 0 - 2 * z - 1 else 2 * z
def plOf (z : Int) : Pl := if fldZ z ≥ 10 ^ 18 then ⟨fldZ z, fldZ z % 1000000007, 0⟩ else ⟨0, fldZ z % 1000000007, 0⟩
theorem fldZ_nn (z : Int) : 0 ≤ fldZ z := by
  unfold fldZ
  split <;> omega
theorem plOf_ok (z : Int) : (plOf z).Ok 0 := by
  have h := fldZ_nn z
  have h0 : 0 ≤ fldZ z % 1000000007 := Int.emod_nonneg _ (by decide)
  have h1 : fldZ z % 1000000007 < 1000000007 := Int.emod_lt_of_pos _ (by decide)
  unfold plOf
  split
  · exact ⟨h, h0, h1, Int.le_refl _, Int.le_refl _⟩
  · exact ⟨Int.le_refl _, h0, h1, Int.le_refl _, Int.le_refl _⟩
/-- one draw below m -/
def tk (p : Pl) (m : Int) : Int × Pl :=
  if 0 < p.a then (p.a % m, ⟨p.a / m, p.b, p.c⟩)
  else (((p.b + 7919 * (p.c + 1) + 104729) ^ (5 : Int).toNat % 2147483647 + (p.c + 1)) * 40692 % 2147483629 % m, ⟨p.a, p.b, p.c + 1⟩)
theorem tk_lt (p : Pl) {m : Int} (h : 0 < m) : 0 ≤ (tk p m).1 ∧ (tk p m).1 < m := by
  unfold tk
  split
  · exact ⟨Int.emod_nonneg _ (by omega), Int.emod_lt_of_pos _ h⟩
  · exact ⟨Int.emod_nonneg _ (by omega), Int.emod_lt_of_pos _ h⟩
theorem tk_ok {p : Pl} {n m : Int} (h : p.Ok n) (hm : 0 < m) : (tk p m).2.Ok (n + 1) := by
  obtain ⟨h1, h2, h3, h4, h5⟩ := h
  unfold tk
  split
  · exact ⟨Int.ediv_nonneg h1 (by omega), h2, h3, h4, by show p.c ≤ n + 1; omega⟩
  · exact ⟨h1, h2, h3, by show 0 ≤ p.c + 1; omega, by show p.c + 1 ≤ n + 1; omega⟩
end DL

/-! DP: texts by their signs (own work). -/
namespace DL
open PySem L2 PySem.W
/-- the text of these signs -/
def tx (l : List Nat) : Str := ⟨l.toArray⟩
theorem tx_cps (l : List Nat) : (tx l).cps.toList = l := rfl
theorem tx_len (l : List Nat) : (tx l).length = l.length := by rw [str_len, tx_cps]
theorem tx_app (l m : List Nat) : tx l ++ tx m = tx (l ++ m) := by
  refine str_ext ?_
  show ((tx l).cps ++ (tx m).cps).toList = l ++ m
  rw [Array.toList_append]
  rfl
theorem tx_cut (l : List Nat) (lo hi : Option Int) : cutS (tx l) lo hi = tx (cutD l lo hi) := by
  unfold cutS cutD
  rw [tx_cps, tx_len]
  rfl
theorem tx_one (c : Nat) : (⟨#[c]⟩ : Str) = tx [c] := rfl
theorem letters_tx : ("abcdefghijklmnopqrstuvwxyz" : Str) = tx letL := str_ext rfl
theorem digits_tx : ("0123456789" : Str) = tx digL := str_ext rfl
theorem let_len : letL.length = 26 := by decide
theorem sig_len : (letL ++ digL).length = 36 := by decide
theorem isNm_tx (l : List Nat) : isNm (tx l) = nmL l := by unfold isNm; rw [tx_cps]
theorem nmL_of {c : Nat} {r : List Nat} (h : c ∈ letL) (h2 : ∀ x ∈ c :: r, x ∈ letL ++ digL) (hl : (c :: r).length ≤ 8) : nmL (c :: r) = true := by
  show (decide ((c :: r).length ≤ 8) && (decide (c ∈ letL) && (c :: r).all fun x => decide (x ∈ letL) || decide (x ∈ digL))) = true
  rw [decide_eq_true hl, decide_eq_true h, Bool.true_and, Bool.true_and, List.all_eq_true]
  intro x hx
  rw [Bool.or_eq_true, decide_eq_true_eq, decide_eq_true_eq]
  exact List.mem_append.mp (h2 x hx)
/-- a name, its signs -/
theorem nm_of {l : List Nat} (h0 : ∃ c, l.head? = some c ∧ c ∈ letL) (h2 : ∀ x ∈ l, x ∈ letL ++ digL) (hl : l.length ≤ 8) : isNm (tx l) = true := by
  rw [isNm_tx]
  obtain ⟨c, hc, hm⟩ := h0
  cases l with
  | nil => cases hc
  | cons d r =>
    cases hc
    exact nmL_of hm h2 hl
/-- a drawn sign -/
theorem sgn_at {l : List Nat} {i : Int} (h0 : 0 ≤ i) (h1 : i < l.length) : ∃ c, atI l i = some c ∧ c ∈ l := by
  have hlt : i.toNat < l.length := by omega
  exact ⟨l[i.toNat], atZ h0 (List.getElem?_eq_getElem hlt), List.getElem_mem hlt⟩
section
variable {K : PySem.W.Frag} {ro : Ro} {ka k1 k2 k3 : Cells} {te tf : TE} {tl th : TO}
theorem ev_ixT {l : List Nat} {i : Int} {c : Nat} (h : EvD K te ro ka (.val (.str (tx l))) k1) (h2 : EvD K tf ro k1 (.val (.int i)) k2) (hs : l.length ≤ 1000) (hc : atI l i = some c) : EvD K (tOp (rIx K) te tf) ro ka (.val (.str (tx [c]))) k2 := ev_ixS h h2 (by rw [tx_len]; omega) (by rw [tx_cps]; exact hc)
theorem ev_addT {l m : List Nat} (h : EvD K te ro ka (.val (.str (tx l))) k1) (h2 : EvD K tf ro k1 (.val (.str (tx m))) k2) (hz : l.length + m.length ≤ 1000) : EvD K (tOp (rAddU K) te tf) ro ka (.val (.str (tx (l ++ m)))) k2 := (ev_addS h h2 (by rw [tx_len, tx_len]; omega)).to (by rw [tx_app])
theorem ev_slX {lo hi : Option Int} {l : List Nat} (ha : EvD K te ro ka (.val (.str (tx l))) k1) (h1 : EvO K tl ro k1 lo k2) (h2 : EvO K th ro k2 hi k3) (hs : l.length ≤ 1000) : EvD K (tSl (rSlU K) te tl th) ro ka (.val (.str (tx (cutD l lo hi)))) k3 := (ev_slS ha h1 h2 (by rw [tx_len]; omega)).to (by rw [tx_cut])
theorem ev_lenX {l : List Nat} (h : EvD K te ro ka (.val (.str (tx l))) k1) (hs : l.length ≤ 1000) : EvD K (tCB (rLenU K) (tCons te tNil)) ro ka (.val (.int l.length)) k1 := (ev_lenS h (by rw [tx_len]; omega)).to (by rw [tx_len])
end
end DL

/-! DR: expressions that raise, by data (own work). -/
namespace DL
open PySem L2 PySem.W
/-- te ends with an exception of C1, with the fields gs -/
def EvX (K : PySem.W.Frag) (te : TE) (ro : Ro) (ka : Cells) (E : XK) (C1 : Addr) (gs : List (Str × D)) (k2 : Cells) : Prop := ∀ B F0 ta sg H (Q : VK), En K B F0 ro ka ta sg H → (∀ dx H', En K B F0 ro (k2 ++ [(dx, .xd gs)]) ta sg H' → E (.ref C1) (some dx) H') → te sg H Q
section
variable {K : PySem.W.Frag} {B F0 : Hp} {ro : Ro} {ka k1 k2 k3 kr : Cells} {ta : List (V × W)} {sg : L2.St} {H : Hp} {te tf : TE} {tr : TA} {x y : W} {C C1 : Addr} {fs gs : List (Str × D)} {b : Bool} {E : XK} {De : Ends}
theorem evx_own2 {Cc : Ct} {E' : XK} (ha : EvD K te ro ka x k1) (hb : EvD K tf ro k1 y (k2 ++ kr)) (l : Io (k2 ++ kr) x C fs b) (hC : Cc [x, y] k2 (Xt C1 gs k3)) (hE : E' = E) : EvX K (tOp (rOwn2 C (spC K Cc) E') te tf) ro ka E C1 gs (k3 ++ kr) := fun B F0 ta sg H Q e q => by
  subst hE
  refine ha B F0 ta sg H _ e fun u H1 e1 => hb B F0 _ sg H1 _ e1 fun v H2 e2 => ?_
  obtain ⟨a, dx, xs, rfl, h⟩ := l.en e2 (List.mem_cons_of_mem _ List.mem_cons_self)
  refine ⟨a, dx, xs, rfl, h, sp_exc (vs := [.ref a, v]) (ws := [x, y]) (ta := ta) (kr := kr) (e2.held fun p hp => ?_) rfl hC (fun _ _ z => z) fun dx H' e3 => q dx H' (e3.perm ?_)⟩
  · rcases List.mem_append.mp hp with hp | hp
    · simp at hp
      rcases hp with rfl | rfl
      · exact List.mem_cons_of_mem _ List.mem_cons_self
      · exact List.mem_cons_self
    · exact List.mem_cons_of_mem _ (List.mem_cons_of_mem _ hp)
  · rw [List.append_assoc, List.append_assoc]
    exact List.Perm.append_left _ List.perm_append_comm
theorem evx_ownT {Cc : Ct} {op : Operator} {E' : XK} (ha : EvD K te ro ka x k1) (hb : EvD K tf ro k1 y (k2 ++ kr)) (l : Io (k2 ++ kr) x C fs b) (t : TyWf K C op (k2 ++ kr) y) (hC : Cc [x, y] k2 (Xt C1 gs k3)) (hE : E' = E) : EvX K (tOp (rOwnT2 K C op (spC K Cc) E') te tf) ro ka E C1 gs (k3 ++ kr) := fun B F0 ta sg H Q e q => by
  subst hE
  refine ha B F0 ta sg H _ e fun u H1 e1 => hb B F0 _ sg H1 _ e1 fun v H2 e2 => ?_
  obtain ⟨a, dx, xs, rfl, h⟩ := l.en e2 (List.mem_cons_of_mem _ List.mem_cons_self)
  obtain ⟨T, ty, bt⟩ := t.at_ _ _ _ _ _ _ _ e2 List.mem_cons_self
  refine ⟨a, dx, xs, T, rfl, h, ty, bt, sp_exc (vs := [.ref a, v]) (ws := [x, y]) (ta := ta) (kr := kr) (e2.held fun p hp => ?_) rfl hC (fun _ _ z => z) fun dx H' e3 => q dx H' (e3.perm ?_)⟩
  · rcases List.mem_append.mp hp with hp | hp
    · simp at hp
      rcases hp with rfl | rfl
      · exact List.mem_cons_of_mem _ List.mem_cons_self
      · exact List.mem_cons_self
    · exact List.mem_cons_of_mem _ (List.mem_cons_of_mem _ hp)
  · rw [List.append_assoc, List.append_assoc]
    exact List.Perm.append_left _ List.perm_append_comm
theorem evx_call {Cc : Ct} {ws : List W} {E' : XK} (ha : EvA K tr ro ka ws (k2 ++ kr)) (hC : Cc ws k2 (Xt C1 gs k3)) (hE : E' = E) : EvX K (tCall (spC K Cc) [] E' tr) ro ka E C1 gs (k3 ++ kr) := fun B F0 ta sg H Q e q => by
  subst hE
  refine ha B F0 ta sg H _ e fun vs H1 hl e1 => ?_
  rw [List.append_nil]
  refine sp_exc e1 hl hC (fun _ _ z => z) fun dx H' e3 => q dx H' (e3.perm ?_)
  rw [List.append_assoc, List.append_assoc]
  exact List.Perm.append_left _ List.perm_append_comm
theorem evx_prop {Cc : Ct} {E' : XK} (h : EvX K te ro ka E C1 gs k2) : EvX K (tProp C (spC K Cc) [] E' te) ro ka E C1 gs k2 := fun B F0 ta sg H Q e q => h B F0 ta sg H _ e q
theorem evx_lst (h : EvX K te ro ka E C1 gs k2) : EvX K (tLst (tCons te tr)) ro ka E C1 gs k2 := fun B F0 ta sg H Q e q => h B F0 ta sg H _ e q
/-- return of an expression that raises, caught -/
theorem g_retX {c : Value} {i : Nat} {ts : Addr → Value → Option Addr → TS} {Wout : WX} {De' : Ends} (h : EvX K te ro ka (XW ro.length (wAs K c i ts Wout De)) C1 gs k2) (hx : exmOne K (.ref C1) c = some true)
    (hs : ∀ a dx, Gp K B F0 ta (ts a (.ref C1) (some dx) { nx := fun σ' H' => De.nx (σ'.set i none) H', rt := De.rt, bk := fun σ' H' => De.bk (σ'.set i none) H', ct := fun σ' H' => De.ct (σ'.set i none) H' }) ((List.replicate ro.length none).set i (some (.val (.adr a)))) (k2 ++ [(dx, .xd gs)])) : Gp K B F0 ta (tRet te De') ro ka := fun sg H e =>
  h B F0 ta sg H _ e fun dx H' e' => xw_as hx (fun a => hs a dx) e'
end
end DL
namespace DL
open PySem L2 PySem.W
theorem cut_to' {β : Type} {xs : List β} {i : Int} (h0 : 0 ≤ i) : cutD xs none (some i) = xs.take i.toNat := by
  by_cases h1 : i ≤ xs.length
  · exact cut_to h0 h1
  · unfold cutD HT.sIx
    dsimp only
    rw [if_neg (by omega), List.drop_zero, Nat.sub_zero, Nat.min_eq_right (by omega), List.take_of_length_le (Nat.le_refl _), List.take_of_length_le (by omega)]
theorem stD_take (ss : List Str) (n : Nat) : (stD ss).take n = stD (ss.take n) := by unfold stD; rw [List.map_take]
theorem stD_drop (ss : List Str) (n : Nat) : (stD ss).drop n = stD (ss.drop n) := by unfold stD; rw [List.map_drop]
theorem stD_app (xs ys : List Str) : stD xs ++ stD ys = stD (xs ++ ys) := by unfold stD; rw [List.map_append]
theorem stD_rep (ss : List Str) (n : Nat) : (List.replicate n (stD ss)).flatten = stD (List.replicate n ss).flatten := by
  unfold stD
  rw [List.map_flatten, List.map_replicate]
theorem stD_get {ss : List Str} {i : Nat} {s : Str} (h : ss[i]? = some s) : (stD ss)[i]? = some (.str s) := by unfold stD; rw [List.getElem?_map, h]; rfl
theorem mem_rep {β : Type} {ss : List β} {n : Nat} {s : β} (h : s ∈ (List.replicate n ss).flatten) : s ∈ ss := by
  obtain ⟨l, h1, h2⟩ := List.mem_flatten.mp h
  rw [(List.mem_replicate.mp h1).2] at h2
  exact h2
end DL
namespace DL
open PySem L2 PySem.W
/-- the end of a loop within a loop -/
theorem g_jpH {K : PySem.W.Frag} {B F0 : Hp} {ta ta' : List (V × W)} {Inv : Ro → Cells → Prop} {ro : Ro} {ka : Cells} (h : ∀ p ∈ ta, p ∈ ta') (i : Inv ro ka) : Gp K B F0 ta' (Jp K B F0 ta Inv) ro ka := fun sg H e => ⟨ro, ka, i, e.held h⟩
end DL
namespace DL
open PySem L2 PySem.W
def inD (ns : List Int) : List D := ns.map .int
/-- w is the script -/
def Scr (K : PySem.W.Frag) (w : W) (ns : List Int) : Prop := w = .val (.lst (inD ns)) ∨ ∃ p, w = .val (.adr p) ∧ ∀ H, SqL K H p (ns.map V.int)
theorem law_sp {K : PySem.W.Frag} {Cc : Ct} {H : Hp} {a : Addr} {ns : List Int} (hC : ∀ z, Scr K z ns → Cc [z] [] (Rt (.bl true) [])) (hS : SqL K H a (ns.map V.int)) : spC K Cc [.ref a] H (fun v _ => v = .bl true) fun _ _ _ => False := by
  have rt : ∀ {B F0 : Hp}, RtOk K B F0 (Rt (.bl true) []) (fun v _ => v = .bl true) := fun {B F0} d ka v H' o e => by
    obtain ⟨h, _⟩ := o
    cases h
    exact e.tm_bl List.mem_cons_self
  have rx : ∀ {B F0 : Hp}, RxOk K B F0 (Rt (.bl true) []) (fun _ _ _ => False) := fun {B F0} => ⟨fun C fs ka dx H' o _ => (by cases o.1), fun C ka H' o _ => (by cases o.1)⟩
  have nob : Sub (fun _ => none) H := fun _ _ h => by cases h
  rcases id hS with h | h
  · refine ⟨fun _ => none, gH H, [.val (.lst (inD ns))], [], _, hC _ (.inl rfl), rfl, ⟨gH H, Gr.refl _ _, gH_nz, gH_exz, nob, List.nodup_nil, fun p hp => (by cases hp), rfl, fun i w e => by simp at e, fun p hp => ?_⟩, rt, rx⟩
    have hp2 : p = (V.ref a, W.val (.lst (inD ns))) := by simpa using hp
    subst hp2
    refine ⟨a, ns.map V.int, rfl, .inl ?_, rpl_ints ns⟩
    unfold gH
    rcases h with h | ⟨o, h⟩
    · rw [h]
    · rw [h]
      rfl
  · refine ⟨fun _ => none, fun _ => none, [.val (.adr a)], [], _, hC _ (.inr ⟨a, rfl, fun _ => .inr h⟩), rfl, ⟨fun _ => none, Gr.refl _ _, fun _ _ h => (by cases h), fun _ _ h => (by cases h), nob, List.nodup_nil, fun p hp => (by cases hp), rfl, fun i w e => by simp at e, fun p hp => ?_⟩, rt, rx⟩
    have hp2 : p = (V.ref a, W.val (.adr a)) := by simpa using hp
    subst hp2
    rfl
/-- what the head must tell of a law's def: its contract, kept by every list of numbers -/
def LawIn (l : PySem.W.OpenLaw) (k : Nat) (x : Str) (w : World) (mg : Str → Option Value) (f : Addr) (h : Heap) : Prop :=
  ∃ (K : PySem.W.Frag) (Cc : Ct) (fd : FuncData), K.In h ∧ (∀ z ns, Scr K z ns → Cc [z] [] (Rt (.bl true) [])) ∧ (∀ (s : Shared) (u : Value), BindsTo s fd ⟨[u], []⟩ [(x, u)]) ∧ ∀ base : Heap, FnOk l.prog w K mg base (L2.CX l.prog w) k f fd [x] (spC K Cc)
abbrev LawWalk (l : PySem.W.OpenLaw) (q : Program) (loose : List Str) (XP : (Str → Option Value) → Heap → Prop) (YP : World → Heap → Prop) (d : DefRec) : Prop := PySem.W.WalkO q loose XP YP l.row.toRowW d [] (fun g us => PySem.call g us)
/-- the law's walk, from what the head tells -/
theorem walk_D {l : PySem.W.OpenLaw} {n k : Nat} {q : Program} {loose : List Str} {XP : (Str → Option Value) → Heap → Prop} {YP : World → Heap → Prop} {d : DefRec} {x : Str} (most : l.most = some n) (fits : n ≤ sizeLine)
    (plain : d.params.defaults = []) (room : Room k callerA) (told : ∀ w mg f h, YP w h → h.Ns mainGlobals mg → mg d.name = some (.ref f) → LawIn l k x w mg f h) : LawWalk l q loose XP YP d :=
  Att.attach_call most plain fun w _ _ mg _ f _ _ _ _ arg vs ns G known _ _ _ at_ obj nums short grown => by
    have ⟨K, Cc, fd, inH, keeps, binds, ok⟩ := told w mg f _ known G.T.g at_
    exact law_call inH G.T.g G.T.b G.T.builtins G.T.nolimit grown obj nums (Nat.le_trans short fits) room (fun base _ _ => ok base) binds (fun H _ S => law_sp (fun z hz => keeps z ns hz) S) fun H e s' z => by
      obtain ⟨_, _, _, _, _, _, _, _, _, _, _, _, bad⟩ := z
      exact bad
end DL

/-! DU: tuple * number (own work). -/
namespace DL
open PySem PySem.Spec PyProof.Rows L2
/-- a tuple taken once is the tuple itself -/
theorem once_same {l : Addr} {us : Array Value} {tok : Tok} : Meets (Builtin.«tuple.__mul__» ⟨[.ref l, .int 1 tok], []⟩) (fun _ R st => IsTup st.heap l us ∧ R (.ok (.ret (.ref l))) st) := Meets.of_wp fun _ _ _ _ st both => by
  have ⟨⟨⟨kind, dct, stuff, slots⟩, there, k, n, d⟩, over⟩ := both
  cases k
  cases d
  have one : (us.isEmpty || (1 : Int) == 1) = true := Bool.or_eq_true_iff.mpr (.inr rfl)
  have index := AutoSeq1.idx_int
  cases st
  wp_walk using wpAny_loadPart' there
  exact ⟨_, rfl, over⟩
def rOnceT (K : PySem.W.Frag) : R2 := fun x y H Q => ∃ l xs, x = .ref l ∧ y = .int 1 ∧ SqT K H l xs ∧ Q (.ref l) H
theorem op_onceT {X : Cx} : OpR X (binaryOp .Mult) (rOnceT X.K) := fun pins st sg H x y v u Q I rx ry want => by
  have ⟨l, xs, ex, ey, t, q⟩ := want
  subst ex ey
  cases rx
  have ⟨tok, e⟩ := ry
  subst e
  have ⟨us, _, tup, _⟩ := I.tuple t
  have ⟨⟨kind, dct, stuff, slots⟩, there, k, n, d⟩ := tup
  cases k
  cases d
  have here : st.TypeIs (.ref l) "tuple" := ⟨_, there, rfl⟩
  have done : wpAny (model X.prog X.w) X.A (call (.builtin "tuple.__mul__") [.ref l, .int 1 tok]) (EP X pins sg Q) X.xe st := call_meets F.slot_tuple_mul here F.entry_tuple_mul (F.args_tuple_mul_2 _ _) once_same ⟨tup, .ref l, H, I, rfl, q⟩
  have declined : wpAny (model X.prog X.w) X.A (call (.builtin "int.__rmul__") [.int 1 tok, .ref l]) (fun r s1 => r = .notImplemented ∧ s1.TypeIs (.ref l) "tuple" ∧ wpAny (model X.prog X.w) X.A (call (.builtin "tuple.__mul__") [.ref l, .int 1 tok]) (EP X pins sg Q) X.xe s1) X.xe st :=
    call_meets F.slot_int_rmul (typeIs_int st 1 tok) F.entry_int_rmul (F.args_int_rmul_2 _ _) (int_rmul_tuple 1 tok l us.toArray n dct slots) ⟨there, rfl, here, done⟩
  exact wpAny_binaryOp_repeat_ref (U := "int") (by decide) here (fun s1 => typeIs_int s1 1 tok) noFill_tuple_mul F.fills_int_mul F.slot_int_rmul repeat_tuple F.slot_int_index.lookup declined
/-- numbers, list * number, tuple * number -/
def rMulV (K : PySem.W.Frag) : R2 := fun x y H Q => rMulU x y H Q ∨ (fun x y H Q => rRepT K x y H Q ∨ rOnceT K x y H Q) x y H Q
theorem op_mulV {X : Cx} : OpR X (binaryOp .Mult) (rMulV X.K) := op_mulU.or (op_repT.or op_onceT)
section
open PySem.W
variable {K : PySem.W.Frag} {ro : Ro} {ka k1 k2 : Cells} {te tf : TE}
theorem rv_repT {ds : List D} {i : Int} (hne : ds ≠ []) (h1 : 1 ≤ i) (h2 : i ≤ 1000) (hl : ds.length ≤ 1000) : RvD K (rMulV K) ka (.val (.tup ds)) (.val (.int i)) (.val (.tup (List.replicate i.toNat ds).flatten)) := by
  by_cases h : i = 1
  · subst h
    have e : (List.replicate (1 : Int).toNat ds).flatten = ds := by simp
    rw [e]
    refine rvd_r (rvd_r fun B F0 ro ta sg H u v Q e hu hv q => ?_)
    obtain ⟨F, g, ef⟩ := id e
    obtain ⟨a, xs, rfl, s1, r1⟩ := Lk.vt.get ef (ef.tm _ hu)
    exact ⟨a, xs, rfl, e.tm_int hv, s1, q _ _ ⟨F, g, ef.push (ef.tm _ hu)⟩⟩
  · refine rvd_r (rvd_l fun B F0 ro ta sg H u v Q e hu hv q => ?_)
    obtain ⟨F, g, ef⟩ := id e
    obtain ⟨a, xs, rfl, s1, r1⟩ := Lk.vt.get ef (ef.tm _ hu)
    refine ⟨a, i, xs, rfl, e.tm_int hv, s1, fun z => hne (List.eq_nil_of_length_eq_zero (by rw [← rpl_len r1, z]; rfl)), by omega, h2, by rw [rpl_len r1]; exact hl, fun p hp => q _ _ ?_⟩
    obtain ⟨e4, g4⟩ := ef.lay (o := .tup (List.replicate i.toNat xs).flatten) hp rfl
    exact ⟨_, g.trans g4, e4.push ⟨p, _, rfl, .inl (.inl upd_same), RpL.mono g4.sub.exz ef.nz _ _ (rpl_repl r1 _)⟩⟩
theorem ev_repT {ds : List D} {i : Int} (h : EvD K te ro ka (.val (.tup ds)) k1) (h' : EvD K tf ro k1 (.val (.int i)) k2) (hne : ds ≠ []) (h1 : 1 ≤ i) (h2 : i ≤ 1000) (hl : ds.length ≤ 1000) : EvD K (tOp (rMulV K) te tf) ro ka (.val (.tup (List.replicate i.toNat ds).flatten)) k2 := ev_op h h' (rv_repT hne h1 h2 hl)
/-- name op= number -/
theorem g_augI {B F0 : Hp} {ta : List (V × W)} {De : Ends} {i : Nat} {x y z : Int} {ti : TIp} (hi : ro[i]? = some (some (.val (.int x)))) (h : EvD K te ro ka (.val (.int y)) k1) (ht : ∀ H Q, Q (.int z) H → ti (.int x) (.int y) H Q) (k : Gp K B F0 ta De.nx (ro.set i (some (.val (.int z)))) k1) : Gp K B F0 ta (tAug i te ti De) ro ka := fun sg H e => by
  obtain ⟨F, g, ef⟩ := id e
  obtain ⟨v, h1, h2⟩ := ef.sl i _ hi
  have hv : v = .int x := h2
  subst hv
  refine ⟨_, h1, h B F0 ta sg H _ e fun w H1 e1 => ?_⟩
  have hw := e1.tm_int (v := w) (i := y) List.mem_cons_self
  subst hw
  exact ht _ _ (k _ _ ((e1.pop.push_imm (v := .int z) (w := .val (.int z)) fun _ => rfl).set i))
end
end DL

/-! DV: dicts, sorted texts, data compared by < (own work). -/
namespace DL
open PySem L2 PySem.W

/-! ### tables -/
section
variable {κ α β : Type} [DecidableEq κ]
def getT (kvs : List (κ × α)) (k : κ) : Option α := (kvs.find? fun kv => decide (kv.1 = k)).map (·.2)
def hasT (kvs : List (κ × α)) (k : κ) : Bool := kvs.any fun p => decide (p.1 = k)
def newAt (k : κ) (v : α) (p : κ × α) : κ × α := if p.1 = k then (p.1, v) else p
/-- a key that stands keeps its place, a new one comes last -/
def putT (kvs : List (κ × α)) (k : κ) (v : α) : List (κ × α) := if hasT kvs k = true then kvs.map (newAt k v) else kvs ++ [(k, v)]
def dropT (kvs : List (κ × α)) (k : κ) : List (κ × α) := kvs.filter fun kv => decide (kv.1 ≠ k)
/-- tables of the same keys -/
def PT (R : α → β → Prop) : List (κ × α) → List (κ × β) → Prop
  | [], xs => xs = []
  | (k, d) :: ds, xs => ∃ x ys, xs = (k, x) :: ys ∧ R d x ∧ PT R ds ys
variable {R : α → β → Prop}
theorem PT.any : ∀ {ds : List (κ × α)} {xs : List (κ × β)}, PT R ds xs → ∀ k, hasT xs k = hasT ds k
  | [], xs, h, k => by rw [show xs = [] from h]; rfl
  | (k', d) :: ds, xs, h, k => by
    obtain ⟨x, ys, rfl, _, h2⟩ := h
    unfold hasT
    rw [List.any_cons, List.any_cons]
    exact congrArg (fun z => decide (k' = k) || z) (PT.any h2 k)
theorem PT.map (k : κ) {d : α} {x : β} (r : R d x) : ∀ {ds : List (κ × α)} {xs : List (κ × β)}, PT R ds xs → PT R (ds.map (newAt k d)) (xs.map (newAt k x))
  | [], xs, h => by rw [show xs = [] from h]; rfl
  | (k', d') :: ds, xs, h => by
    obtain ⟨x', ys, rfl, h1, h2⟩ := h
    have rest := PT.map k r h2
    by_cases e : k' = k
    · have e1 : newAt k d (k', d') = (k', d) := if_pos e
      have e2 : newAt k x (k', x') = (k', x) := if_pos e
      rw [List.map_cons, e1, List.map_cons, e2]
      exact ⟨x, _, rfl, r, rest⟩
    · have e1 : newAt k d (k', d') = (k', d') := if_neg e
      have e2 : newAt k x (k', x') = (k', x') := if_neg e
      rw [List.map_cons, e1, List.map_cons, e2]
      exact ⟨x', _, rfl, h1, rest⟩
theorem PT.snoc {k : κ} {d : α} {x : β} (r : R d x) : ∀ {ds : List (κ × α)} {xs : List (κ × β)}, PT R ds xs → PT R (ds ++ [(k, d)]) (xs ++ [(k, x)])
  | [], xs, h => by rw [show xs = [] from h]; exact ⟨x, [], rfl, r, rfl⟩
  | (k', d') :: ds, xs, h => by
    obtain ⟨x', ys, rfl, h1, h2⟩ := h
    exact ⟨x', _, rfl, h1, PT.snoc r h2⟩
theorem PT.put {ds : List (κ × α)} {xs : List (κ × β)} (h : PT R ds xs) (k : κ) {d : α} {x : β} (r : R d x) : PT R (putT ds k d) (putT xs k x) := by
  unfold putT
  rw [h.any k]
  split
  · exact h.map k r
  · exact h.snoc r
theorem PT.drop (k : κ) : ∀ {ds : List (κ × α)} {xs : List (κ × β)}, PT R ds xs → PT R (dropT ds k) (dropT xs k)
  | [], xs, h => by rw [show xs = [] from h]; rfl
  | (k', d') :: ds, xs, h => by
    obtain ⟨x', ys, rfl, h1, h2⟩ := h
    unfold dropT
    rw [List.filter_cons, List.filter_cons]
    by_cases e : k' = k
    · rw [if_neg (by simpa using e), if_neg (by simpa using e)]; exact PT.drop k h2
    · rw [if_pos (by simpa using e), if_pos (by simpa using e)]; exact ⟨x', _, rfl, h1, PT.drop k h2⟩
theorem PT.get (k : κ) : ∀ {ds : List (κ × α)} {xs : List (κ × β)}, PT R ds xs → (getT ds k = none → getT xs k = none) ∧ ∀ d, getT ds k = some d → ∃ x, getT xs k = some x ∧ R d x
  | [], xs, h => by rw [show xs = [] from h]; exact ⟨fun _ => rfl, fun d q => by cases q⟩
  | (k', d') :: ds, xs, h => by
    obtain ⟨x', ys, rfl, h1, h2⟩ := h
    by_cases e : k' = k
    · have e1 : getT ((k', d') :: ds) k = some d' := by simp [getT, List.find?_cons, e]
      have e2 : getT ((k', x') :: ys) k = some x' := by simp [getT, List.find?_cons, e]
      rw [e1, e2]
      refine ⟨fun q => (by cases q), fun d q => ?_⟩
      cases q
      exact ⟨x', rfl, h1⟩
    · have e1 : getT ((k', d') :: ds) k = getT ds k := by simp [getT, List.find?_cons, e]
      have e2 : getT ((k', x') :: ys) k = getT ys k := by simp [getT, List.find?_cons, e]
      rw [e1, e2]
      exact PT.get k h2
theorem PT.len : ∀ {ds : List (κ × α)} {xs : List (κ × β)}, PT R ds xs → xs.length = ds.length
  | [], xs, h => by rw [show xs = [] from h]; rfl
  | (k', d') :: ds, xs, h => by
    obtain ⟨x', ys, rfl, h1, h2⟩ := h
    rw [List.length_cons, List.length_cons, PT.len h2]
theorem PT.at : ∀ {ds : List (κ × α)} {xs : List (κ × β)}, PT R ds xs → ∀ {i : Nat} {p : κ × α}, ds[i]? = some p → ∃ x, xs[i]? = some (p.1, x) ∧ R p.2 x
  | [], xs, h, i, p, e => by simp at e
  | (k', d') :: ds, xs, h, 0, p, e => by
    obtain ⟨x', ys, rfl, h1, h2⟩ := h
    cases e
    exact ⟨x', rfl, h1⟩
  | (k', d') :: ds, xs, h, i + 1, p, e => by
    obtain ⟨x', ys, rfl, h1, h2⟩ := h
    exact PT.at h2 (i := i) (by simpa using e)
theorem putT_len (kvs : List (κ × α)) (k : κ) (v : α) : (putT kvs k v).length ≤ kvs.length + 1 := by
  unfold putT
  split
  · rw [List.length_map]; omega
  · rw [List.length_append, List.length_cons, List.length_nil]; omega
end
theorem rpk_pt {K : PySem.W.Frag} {F : Hp} : ∀ {ds : List (Key × D)} {xs : List (Key × V)}, RpK K F ds xs ↔ PT (Rp K F) ds xs
  | [], xs => Iff.rfl
  | (k, d) :: ds, xs => ⟨fun ⟨x, ys, e, h1, h2⟩ => ⟨x, ys, e, h1, rpk_pt.mp h2⟩, fun ⟨x, ys, e, h1, h2⟩ => ⟨x, ys, e, h1, rpk_pt.mpr h2⟩⟩
theorem rpt_pt {K : PySem.W.Frag} {F : Hp} : ∀ {ds : List (List Key × D)} {xs : List (List Key × V)}, RpT K F ds xs ↔ PT (Rp K F) ds xs
  | [], xs => Iff.rfl
  | (k, d) :: ds, xs => ⟨fun ⟨x, ys, e, h1, h2⟩ => ⟨x, ys, e, h1, rpt_pt.mp h2⟩, fun ⟨x, ys, e, h1, h2⟩ => ⟨x, ys, e, h1, rpt_pt.mpr h2⟩⟩
/-- a key as data -/
def kD : Key → D
  | .inl i => .int i
  | .inr s => .str s

section
variable {K : PySem.W.Frag} {B F F0 : Hp} {ro : Ro} {ka k1 k2 k3 kr : Cells} {ta : List (V × W)} {sg : L2.St} {H H' : Hp} {te tf tg tk tv : TE} {tr : TA} {tt tu : TT} {w x y z : W} {n m : Nd} {C dx a : Addr} {b : Bool} {P : L2.St → Hp → Prop} {De : Ends} {t u : TS} {E : XK}
theorem En.tm_key (e : En K B F0 ro ka ta sg H) {v : V} {k : Key} (h : (v, W.val (kD k)) ∈ ta) : v = kV k := by
  cases k with
  | inl i => exact e.tm_int h
  | inr s => exact e.tm_str h
/-- {k: v for x in .. if ..}: what is told of the dict -/
theorem evr_dc {wi : TI} {ws : List W} {C : Cells → Prop} {j : Nat} {vs : List Nat} (h : EvI K wi ro ka ws C k1) (hj : j ∈ vs) (hn : ws.length ≤ 1000000) (Inv : Nat → List (Key × D) → Cells → Prop) (h0 : Inv 0 [] k1) (hC : ∀ i acc k, Inv i acc k → C k ∧ ∀ x, C (k ++ [x]))
    (hs : ∀ i w acc k, ws[i]? = some w → Inv i acc k → (∃ k2, EvT K tt ((wipeR ro vs).set j (some w)) k false k2 ∧ Inv (i + 1) acc k2) ∨ ∃ k2 k3 k4 c d, EvT K tt ((wipeR ro vs).set j (some w)) k true k2 ∧ EvD K tk ((wipeR ro vs).set j (some w)) k2 (.val (kD c)) k3 ∧ EvD K tv ((wipeR ro vs).set j (some w)) k3 (.val d) k4 ∧ Inv (i + 1) (putT acc c d) k4)
    : EvNR K (tDc wi (gName j) tt tk tv vs) ro ka (fun n k => ∃ acc, n = .dic acc ∧ Inv ws.length acc k) := fun B F0 ta sg H Q e q =>
  h B F0 ta sg H _ e fun J ta' H1 hta e1 hgo hst => fun Dl hD => by
    let P : Nat → Hp → Prop := fun i H => ∃ acc k, Inv i acc k ∧ acc.length ≤ i ∧ En K B F0 ro (k ++ [(Dl, .dic acc)]) ta' sg H
    have p0 : P 0 (upd H1 Dl (.dK [])) := by
      obtain ⟨F, g, e1⟩ := e1
      exact ⟨[], k1, h0, Nat.le_refl _, F, g, e1.cell (o := .dK []) hD (n := .dic []) ⟨[], upd_same, rfl⟩⟩
    refine ⟨fun i m H => m = ws.length - i ∧ i ≤ ws.length ∧ P i H, ⟨ws.length, by simp, Nat.zero_le _, p0⟩, ?_⟩
    rintro i m H2 ⟨rfl, hi, acc, k, inv, hlen, e2⟩
    by_cases hlt : i < ws.length
    · have hw := List.getElem?_eq_getElem hlt
      obtain ⟨g1, g2⟩ := hgo i ws[i] ro (k ++ [(Dl, .dic acc)]) ta' sg H2 hw ((hC i acc k inv).2 _) (fun p hp => hp) e2
      refine .inr ⟨g1, P (i + 1), fun H' p => ⟨ws.length - (i + 1), by omega, rfl, hlt, p⟩, fun x H3 y => ?_⟩
      have e3 := g2 x H3 y
      refine ⟨wipe_set sg vs hj x, ?_⟩
      have out : ∀ {k : Cells} {ta2 : List (V × W)} {H : Hp}, (∃ F, Gr B F0 F ∧ EnF K B F ((wipeR ro vs).set j (some ws[i])) k ta2 ((wipe sg vs).set j (some x)) H ∧ ∀ (a : Nat) w, ro[a]? = some (some w) → ∃ v, sg[a]? = some (some v) ∧ WOk K B F v w) → En K B F0 ro k ta2 sg H := fun ⟨F, g, q, hs⟩ => ⟨F, g, q.frame (by obtain ⟨_, _, e0⟩ := e; exact e0.ln) hs⟩
      obtain ⟨F3, gF3, eF3⟩ := e3
      have slots : ∀ {F : Hp}, Gr B F3 F → ∀ (a : Nat) w, ro[a]? = some (some w) → ∃ v, sg[a]? = some (some v) ∧ WOk K B F v w := fun {F} g a w ha => by
        obtain ⟨v, h1, h2⟩ := eF3.sl a w ha
        exact ⟨v, h1, wok_gr eF3.nz g h2⟩
      have e4' : En K B F3 ((wipeR ro vs).set j (some ws[i])) (k ++ [(Dl, .dic acc)]) ta' ((wipe sg vs).set j (some x)) H3 :=
        ⟨F3, Gr.refl _ _, ((wipe_en (vs := vs) eF3).set (eF3.tm _ List.mem_cons_self) j).held fun p hp => List.mem_cons_of_mem _ hp⟩
      rcases hs i ws[i] acc k hw inv with ⟨k2, t1, inv2⟩ | ⟨k2, k3, k4, c, d, t1, t2, t3, inv2⟩
      · refine t1.fr [(Dl, .dic acc)] B F3 ta' _ H3 _ e4' fun H4 ⟨F4, g4, e5⟩ => ?_
        exact ⟨acc, k2, inv2, Nat.le_succ_of_le hlen, out ⟨F4, gF3.trans g4, e5, slots g4⟩⟩
      · refine t1.fr [(Dl, .dic acc)] B F3 ta' _ H3 _ e4' fun H4 e5 => ?_
        refine t2.fr [(Dl, .dic acc)] B F3 ta' _ H4 _ e5 fun u H5 e6 => ?_
        have hu := e6.tm_key (v := u) (k := c) List.mem_cons_self
        refine t3.fr [(Dl, .dic acc)] B F3 _ _ H5 _ e6 fun v H6 ⟨F5, g5, e7⟩ => ?_
        have hx : (k4 ++ [(Dl, Nd.dic acc)])[k4.length]? = some (Dl, Nd.dic acc) := by simp
        obtain ⟨xs, h1, h2⟩ := (e7.ce _ (List.mem_of_getElem? hx)).2.2
        have hv := e7.tm _ List.mem_cons_self
        have e8 := e7.write (o := .dK (putK xs c v)) (n' := .dic (putT acc c d)) hx ⟨_, upd_same, rpk_pt.mpr ((rpk_pt.mp h2).put c hv)⟩
        have hset : (k4 ++ [(Dl, Nd.dic acc)]).set k4.length (Dl, Nd.dic (putT acc c d)) = k4 ++ [(Dl, Nd.dic (putT acc c d))] := by
          rw [List.set_append_right _ _ (Nat.le_refl _)]
          simp
        rw [hset] at e8
        refine ⟨xs, c, hu, h1, by rw [(rpk_pt.mp h2).len]; exact Nat.lt_of_le_of_lt (Nat.le_trans hlen (Nat.le_trans hi hn)) (by decide), putT acc c d, k4, inv2, Nat.le_trans (putT_len _ _ _) (Nat.succ_le_succ hlen), ?_⟩
        exact out ⟨F5, gF3.trans g5, e8.held fun p hp => List.mem_cons_of_mem _ (List.mem_cons_of_mem _ hp), slots g5⟩
    · have ei : i = ws.length := by omega
      subst ei
      refine .inl ⟨hst _ ro (k ++ [(Dl, .dic acc)]) ta' sg H2 (Nat.le_refl _) ((hC _ acc k inv).2 _) (fun p hp => hp) e2, ?_⟩
      exact q _ _ Dl H2 ⟨acc, rfl, inv⟩ (e2.held hta)

/-! ### a dict that is the def's own, locked while it is walked -/
theorem En.cellAt (e : En K B F0 ro ka ta sg H) {j : Nat} (hj : ka[j]? = some (a, n)) : ∃ F, Gr B F0 F ∧ EnF K B F ro ka ta sg H ∧ NdOk K F H a n := let ⟨F, g, q⟩ := e; ⟨F, g, q, (q.ce _ (List.mem_of_getElem? hj)).2.2⟩
theorem set_back {β : Type} {l : List β} {j : Nat} {x y : β} (h : l[j]? = some x) : (l.set j y).set j x = l := by
  rw [List.set_set]
  refine List.ext_getElem? fun i => ?_
  by_cases e : j = i
  · subst e
    rw [List.getElem?_set_self (List.getElem?_eq_some_iff.mp h).1, h]
  · rw [List.getElem?_set_ne e]
theorem get_set {β : Type} {l : List β} {j : Nat} {x y : β} (h : l[j]? = some x) : (l.set j y)[j]? = some y := List.getElem?_set_self (List.getElem?_eq_some_iff.mp h).1
theorem ev_lock {j : Nat} {ds : List (Key × D)} (hj : ka[j]? = some (a, .dic ds)) (hj1 : k1[j]? = some (a, .dic ds)) (h : ∀ o xs, EvD K te ro (ka.set j (a, .ldic o xs ds)) w (k1.set j (a, .ldic o xs ds))) : EvD K (tLockE te) ro ka w k1 := fun B F0 ta sg H Q e q => by
  obtain ⟨F, g, ef, xs, hx, rx⟩ := e.cellAt hj
  refine ⟨a, .dK xs, hx, trivial, fun od => ?_⟩
  refine h od xs B F0 ta sg _ _ ⟨F, g, ef.write hj ⟨upd_same, rx⟩⟩ fun v H1 e1 => ?_
  obtain ⟨F1, g1, ef1, hx1, rx1⟩ := e1.cellAt (get_set hj1)
  refine ⟨hx1, q _ _ ⟨F1, g1, ?_⟩⟩
  have := ef1.write (o := .dK xs) (n' := .dic ds) (get_set hj1) ⟨xs, upd_same, rx1⟩
  rwa [set_back hj1] at this
theorem evn_lock {j : Nat} {ds : List (Key × D)} (hj : ka[j]? = some (a, .dic ds)) (hj1 : k1[j]? = some (a, .dic ds)) (h : ∀ o xs, EvN K te ro (ka.set j (a, .ldic o xs ds)) n (k1.set j (a, .ldic o xs ds))) : EvN K (tLockE te) ro ka n k1 := fun B F0 ta sg H Q e q => by
  obtain ⟨F, g, ef, xs, hx, rx⟩ := e.cellAt hj
  refine ⟨a, .dK xs, hx, trivial, fun od => ?_⟩
  refine h od xs B F0 ta sg _ _ ⟨F, g, ef.write hj ⟨upd_same, rx⟩⟩ fun v H1 e1 => ?_
  have hl : j < (k1.set j (a, Nd.ldic od xs ds)).length := by rw [List.length_set]; exact (List.getElem?_eq_some_iff.mp hj1).1
  have hg : (k1.set j (a, Nd.ldic od xs ds) ++ [(v, n)])[j]? = some (a, Nd.ldic od xs ds) := by rw [List.getElem?_append_left hl]; exact get_set hj1
  obtain ⟨F1, g1, ef1, hx1, rx1⟩ := e1.cellAt hg
  refine ⟨hx1, q _ _ ⟨F1, g1, ?_⟩⟩
  have := ef1.write (o := .dK xs) (n' := .dic ds) hg ⟨xs, upd_same, rx1⟩
  rwa [List.set_append_left _ _ hl, set_back hj1] at this
/-- the keys of a locked dict -/
theorem ei_keys {o : Obj} {xs : List (Key × V)} {ds : List (Key × D)} (h : EvD K te ro ka (.val (.adr a)) k1) (hm : (a, Nd.ldic o xs ds) ∈ k1) : EvI K (iKeys te) ro ka (ds.map fun kv => W.val (kD kv.1)) (fun k => (a, Nd.ldic o xs ds) ∈ k) k1 := fun B F0 ta sg H R e q =>
  h B F0 ta sg H _ e fun v H1 e1 => by
    have hv := e1.tm_adr (v := v) (a := a) List.mem_cons_self
    subst hv
    obtain ⟨F, g, ef⟩ := id e1
    obtain ⟨hx, rx⟩ := (ef.ce _ hm).2.2
    refine ⟨a, o, rfl, .inl ⟨xs, hx, q _ ta H1 (fun p hp => hp) e1.pop (fun i w2 ro2 ka2 ta2 sg2 H2 hw hs _ e2 => ?_) fun i ro2 ka2 ta2 sg2 H2 hi hs _ e2 => ?_⟩⟩
    · obtain ⟨F2, g2, ef2⟩ := id e2
      obtain ⟨hx2, rx2⟩ := (ef2.ce _ hs).2.2
      rw [List.getElem?_map] at hw
      cases hd : ds[i]? with
      | none => rw [hd] at hw; cases hw
      | some p =>
        rw [hd] at hw
        cases hw
        obtain ⟨y, hy, _⟩ := (rpk_pt.mp rx2).at hd
        refine ⟨⟨hx2, (List.getElem?_eq_some_iff.mp hy).1⟩, fun x H3 ⟨e3, k, v, hk, ek⟩ => ?_⟩
        subst e3 ek
        rw [hy] at hk
        cases hk
        obtain ⟨pk, pd⟩ := p
        exact e2.push_imm fun F => by cases pk <;> rfl
    · obtain ⟨F2, g2, ef2⟩ := id e2
      obtain ⟨hx2, rx2⟩ := (ef2.ce _ hs).2.2
      refine ⟨hx2, ?_⟩
      rw [(rpk_pt.mp rx2).len]
      rwa [List.length_map] at hi

/-! ### sorted texts -/
theorem lt_cps : ∀ a b : List Nat, Spec.ltCps a b = decide (a < b)
  | [], [] => rfl
  | [], _ :: _ => rfl
  | _ :: _, [] => rfl
  | x :: r, y :: t => by
    show (decide (x < y) || (x == y && Spec.ltCps r t)) = _
    rw [lt_cps r t, Bool.eq_iff_iff]
    simp [List.cons_lt_cons_iff]
/-- the order of texts -/
def ltS (a b : Str) : Bool := decide (a.cps.toList < b.cps.toList)
theorem ltS_irr (a : Str) : ltS a a = false := decide_eq_false (List.lt_irrefl _)
theorem ltS_trans {a b c : Str} (h : ltS a b = true) (h2 : ltS b c = true) : ltS a c = true := decide_eq_true (List.lt_trans (of_decide_eq_true h) (of_decide_eq_true h2))
theorem ltS_tri {a b : Str} (h : ltS a b = false) (h2 : ltS b a = false) : a = b := str_ext (List.le_antisymm (List.not_lt.mp (of_decide_eq_false h2)) (List.not_lt.mp (of_decide_eq_false h)))
theorem ltS_asym {a b : Str} (h : ltS a b = true) : ltS b a = false := by
  cases q : ltS b a with
  | false => rfl
  | true => have := ltS_trans h q; rw [ltS_irr] at this; cases this
/-- ascending: none is less than one ahead of it -/
def AscS (xs : List Str) : Prop := xs.Pairwise fun a b => ltS b a = false
theorem asc_rising : ∀ (xs : List Str) (p : Str), PyProof.Rows.risingS p xs = true → AscS (p :: xs)
  | [], p, _ => List.pairwise_singleton ..
  | x :: r, p, h => by
    have h' : (!Spec.ltCps x.cps.toList p.cps.toList && PyProof.Rows.risingS x r) = true := h
    rw [Bool.and_eq_true, lt_cps] at h'
    have ih := asc_rising r x h'.2
    have hx : ltS x p = false := by
      have := h'.1
      unfold ltS
      cases q : decide (x.cps.toList < p.cps.toList) with
      | false => rfl
      | true => rw [q] at this; cases this
    refine List.pairwise_cons.mpr ⟨fun b hb => ?_, ih⟩
    rcases List.mem_cons.mp hb with rfl | hb
    · exact hx
    · have h2 := (List.pairwise_cons.mp ih).1 b hb
      cases q : ltS b p with
      | false => rfl
      | true =>
        cases q2 : ltS p x with
        | true => have := ltS_trans q q2; rw [h2] at this; cases this
        | false => rw [ltS_tri q2 hx] at q; rw [h2] at q; cases q
theorem asc_sorted {xs : List Str} (h : PyProof.Rows.sortedS xs = true) : AscS xs := by
  cases xs with
  | nil => exact List.Pairwise.nil
  | cons x r => exact asc_rising r x h
theorem asc_unique : ∀ {xs ys : List Str}, xs.Perm ys → AscS xs → AscS ys → xs = ys
  | [], ys, p, _, _ => (List.nil_perm.mp p).symm
  | x :: xs, [], p, _, _ => by have := p.length_eq; cases this
  | x :: xs, y :: ys, p, h1, h2 => by
    have e : x = y := by
      have hx : x ∈ y :: ys := p.subset List.mem_cons_self
      have hy : y ∈ x :: xs := p.symm.subset List.mem_cons_self
      rcases List.mem_cons.mp hx with rfl | hx
      · rfl
      rcases List.mem_cons.mp hy with rfl | hy
      · rfl
      exact ltS_tri ((List.pairwise_cons.mp h2).1 x hx) ((List.pairwise_cons.mp h1).1 y hy)
    subst e
    rw [asc_unique ((List.perm_cons x).mp p) (List.pairwise_cons.mp h1).2 (List.pairwise_cons.mp h2).2]
def insS (x : Str) : List Str → List Str
  | [] => [x]
  | y :: r => if ltS y x then y :: insS x r else x :: y :: r
def srt : List Str → List Str
  | [] => []
  | x :: r => insS x (srt r)
theorem insS_perm (x : Str) : ∀ r : List Str, (insS x r).Perm (x :: r)
  | [] => List.Perm.refl _
  | y :: r => by
    unfold insS
    split
    · exact ((insS_perm x r).cons y).trans (List.Perm.swap x y r)
    · exact List.Perm.refl _
theorem srt_perm : ∀ r : List Str, (srt r).Perm r
  | [] => List.Perm.refl _
  | x :: r => (insS_perm x _).trans ((srt_perm r).cons x)
theorem insS_asc {x : Str} : ∀ {r : List Str}, AscS r → AscS (insS x r)
  | [], _ => List.pairwise_singleton ..
  | y :: r, h => by
    unfold insS
    split
    · rename_i q
      refine List.pairwise_cons.mpr ⟨fun b hb => ?_, insS_asc (List.pairwise_cons.mp h).2⟩
      rcases List.mem_cons.mp ((insS_perm x r).subset hb) with rfl | hb
      · exact ltS_asym q
      · exact (List.pairwise_cons.mp h).1 b hb
    · rename_i q
      have q : ltS y x = false := by simpa using q
      refine List.pairwise_cons.mpr ⟨fun b hb => ?_, h⟩
      rcases List.mem_cons.mp hb with rfl | hb
      · exact q
      · have h2 := (List.pairwise_cons.mp h).1 b hb
        cases q3 : ltS b x with
        | false => rfl
        | true =>
          cases q2 : ltS x y with
          | true => have := ltS_trans q3 q2; rw [h2] at this; cases this
          | false => rw [ltS_tri q2 q] at q3; rw [h2] at q3; cases q3
theorem srt_asc : ∀ r : List Str, AscS (srt r)
  | [] => List.Pairwise.nil
  | x :: r => insS_asc (srt_asc r)
theorem srt_len (r : List Str) : (srt r).length = r.length := (srt_perm r).length_eq
theorem srt_eq {xs ys : List Str} (h : xs.Perm ys) : srt xs = srt ys := asc_unique ((srt_perm xs).trans (h.trans (srt_perm ys).symm)) (srt_asc _) (srt_asc _)
theorem mem_srt {s : Str} {xs : List Str} : s ∈ srt xs ↔ s ∈ xs := (srt_perm xs).mem_iff
theorem rpl_strs {F : Hp} : ∀ {ss : List Str} {vs : List V}, RpL K F (stD ss) vs → vs = ss.map V.str
  | [], vs, h => h
  | s :: ss, vs, h => by
    obtain ⟨x, ys, rfl, h1, h2⟩ := h
    rw [rpl_strs h2, show x = V.str s from h1]
    rfl
theorem rpl_mk {F : Hp} : ∀ (ss : List Str), RpL K F (stD ss) (ss.map V.str)
  | [] => rfl
  | s :: ss => ⟨.str s, _, rfl, rfl, rpl_mk ss⟩
/-- sorted(texts): lists -/
theorem rcn_srt {b : Bool} {ss : List Str} (l : Lk ka w false (stD ss) b) (hz : ss.length < 64) : RcN K (rSortedS K) ka [w] (.lst (stD (srt ss))) := fun B F0 ro ta sg H us Q e hl hm q => by
  obtain ⟨u, rfl, hu⟩ := zip_one hl hm
  obtain ⟨F, g, ef⟩ := id e
  obtain ⟨a, xs, rfl, s1, r1⟩ := l.get ef (ef.tm _ hu)
  have ex := rpl_strs r1
  subst ex
  refine ⟨a, ss, rfl, .inl s1, hz, fun ys p hp hs hn => q _ _ ?_⟩
  have ey := asc_unique (hp.trans (srt_perm ss).symm) (asc_sorted hs) (srt_asc ss)
  subst ey
  exact ⟨F, g, ef.cell (o := .lst ((srt ss).map V.str)) hn (n := .lst (stD (srt ss))) ⟨_, upd_same, rpl_mk _⟩⟩
theorem evn_srt {b : Bool} {ss : List Str} (h : EvD K te ro ka w k1) (l : Lk k1 w false (stD ss) b) (hz : ss.length < 64) : EvN K (tCB (rSortedS K) (tCons te tNil)) ro ka (.lst (stD (srt ss))) k1 := evn_cb (ea1 h) (rcn_srt l hz)
/-- str(text) -/
def rStrS : List V → Hp → VK → Prop := fun xs H Q => ∃ a, xs = [.str a] ∧ Q (.str a) H
theorem call_strS {X : Cx} : CallR X (.type "str") rStrS := SkE.call_str_str
theorem ev_strS {s : Str} (h : EvD K te ro ka (.val (.str s)) k1) : EvD K (tCB rStrS (tCons te tNil)) ro ka (.val (.str s)) k1 := ev_cb (ea1 h) fun B F0 ro ta sg H us Q e hl hm q => by
  obtain ⟨u, rfl, hu⟩ := zip_one hl hm
  have := e.tm_str hu
  subst this
  exact ⟨s, rfl, q _ _ (e.push_imm fun _ => rfl)⟩
/-- the different ones, in the order in which they come -/
def dedS (xs : List Str) : List Str := xs.foldl (fun acc s => if s ∈ acc then acc else acc ++ [s]) []
def inOrd (xs : List Str) : List Str := srt (dedS xs)
theorem dedS_snoc (xs : List Str) (s : Str) : dedS (xs ++ [s]) = if s ∈ dedS xs then dedS xs else dedS xs ++ [s] := by
  unfold dedS
  rw [List.foldl_append]
  rfl
theorem dedS_all (n : Nat) : ∀ xs : List Str, xs.length = n → (dedS xs).Nodup ∧ (∀ s, s ∈ dedS xs ↔ s ∈ xs) ∧ (dedS xs).length ≤ xs.length := by
  induction n with
  | zero => intro xs h; rw [List.eq_nil_of_length_eq_zero h]; exact ⟨List.Pairwise.nil, fun s => Iff.rfl, Nat.le_refl _⟩
  | succ n ih =>
    intro xs h
    have hne : xs ≠ [] := fun z => by rw [z] at h; cases h
    obtain ⟨h1, h2, h3⟩ := ih xs.dropLast (by rw [List.length_dropLast, h]; rfl)
    rw [← List.dropLast_concat_getLast hne]
    generalize xs.dropLast = ys at h1 h2 h3
    generalize xs.getLast hne = s
    rw [dedS_snoc]
    split
    · rename_i q
      refine ⟨h1, fun t => ?_, by rw [List.length_append]; omega⟩
      rw [h2 t, List.mem_append, List.mem_singleton]
      exact ⟨.inl, fun z => z.elim id fun z => z ▸ (h2 s).mp q⟩
    · rename_i q
      refine ⟨List.nodup_append.mpr ⟨h1, by simp, fun a ha b hb e => ?_⟩, fun t => ?_, by rw [List.length_append, List.length_append]; exact Nat.add_le_add_right h3 1⟩
      · rw [List.mem_singleton.mp hb] at e; exact q (e ▸ ha)
      · rw [List.mem_append, List.mem_append, h2 t]
theorem dedS_nd (xs : List Str) : (dedS xs).Nodup := (dedS_all _ xs rfl).1
theorem mem_dedS {xs : List Str} {s : Str} : s ∈ dedS xs ↔ s ∈ xs := (dedS_all _ xs rfl).2.1 s
theorem dedS_len (xs : List Str) : (dedS xs).length ≤ xs.length := (dedS_all _ xs rfl).2.2
/-- such a dict -/
def tabS (ss : List Str) : List (Key × D) := ss.map fun s => (.inr s, .bl true)
theorem tabS_put (ss : List Str) (s : Str) : putT (tabS ss) (.inr s) (.bl true) = tabS (if s ∈ ss then ss else ss ++ [s]) := by
  have ha : hasT (tabS ss) (Sum.inr s) = decide (s ∈ ss) := by
    unfold hasT tabS
    rw [List.any_map, Bool.eq_iff_iff]
    rw [List.any_eq_true, decide_eq_true_eq]
    constructor
    · rintro ⟨t, ht, h⟩
      have : t = s := Sum.inr.inj (of_decide_eq_true h)
      exact this ▸ ht
    · intro h
      exact ⟨s, h, decide_eq_true rfl⟩
  unfold putT
  rw [ha]
  by_cases q : s ∈ ss
  · rw [if_pos (decide_eq_true q), if_pos q]
    unfold tabS
    rw [List.map_map]
    refine List.map_congr_left fun t _ => ?_
    show newAt _ _ _ = _
    unfold newAt
    split <;> rfl
  · rw [if_neg (by simpa using q), if_neg q]
    unfold tabS
    rw [List.map_append]
    rfl
end
end DL

/-! DW: data of any depth: in, < (own work). -/
namespace DL
open PySem L2 PySem.W PySem.SeqAt
mutual
def pdD : D → PyData
  | .bl b => .bool b | .int i => .int i | .str s => .str s
  | .tup ds => .tuple (pdL ds) | .lst ds => .list (pdL ds)
  | _ => .none
def pdL : List D → List PyData
  | [] => []
  | d :: ds => pdD d :: pdL ds
end
theorem pdL_map : ∀ ds : List D, pdL ds = ds.map pdD
  | [] => by rw [pdL]; rfl
  | d :: ds => by rw [pdL, pdL_map ds]; rfl
section
variable {X : Cx} {pins : List (Addr × Obj)} {sg : L2.St} {H G : Hp} {s : Shared}
theorem reads_D (I : Inv X pins sg H s) (fz : Exz G H) (nz : Nz G) (n : Nat) : ∀ (d : D) (v : V) (u : Value), pl n d = true → Rp X.K G d v → RelV v u → ∃ as, Reads s.heap u (pdD d) as := by
  induction n with
  | zero =>
    intro d v u h r q
    cases d <;> first | (exact absurd h Bool.false_ne_true) | skip
    all_goals (have z1 := (show v = _ from r); subst z1)
    · cases q; exact ⟨_, .none⟩
    · cases q; exact ⟨_, .bool _⟩
    · obtain ⟨t, rfl⟩ := q; exact ⟨_, .int _ _⟩
    · obtain ⟨t, rfl⟩ := q; exact ⟨_, .str _ _⟩
  | succ n ih =>
    have all : ∀ (ds : List D) (xs : List V) (us : List Value), ds.all (pl n) = true → RpL X.K G ds xs → Vals xs us → ∃ as, ReadsAll s.heap us (pdL ds) as := by
      intro ds
      induction ds with
      | nil => intro xs us _ r q; rw [show xs = [] from r] at q; cases q; exact ⟨_, .nil⟩
      | cons d ds ih2 =>
        intro xs us h r q
        obtain ⟨x, ys, rfl, r1, r2⟩ := r
        rw [List.all_cons, Bool.and_eq_true] at h
        cases q with
        | cons q1 q2 =>
          obtain ⟨as, e1⟩ := ih d x _ h.1 r1 q1
          obtain ⟨bs, e2⟩ := ih2 ys _ h.2 r2 q2
          exact ⟨_, .cons e1 e2⟩
    intro d v u h r q
    cases d with
    | non => cases (show v = _ from r); cases q; exact ⟨_, .none⟩
    | bl b => cases (show v = _ from r); cases q; exact ⟨_, .bool _⟩
    | int b => cases (show v = _ from r); obtain ⟨t, rfl⟩ := q; exact ⟨_, .int _ _⟩
    | str b => cases (show v = _ from r); obtain ⟨t, rfl⟩ := q; exact ⟨_, .str _ _⟩
    | lst ds =>
      obtain ⟨a, xs, rfl, a1, a2⟩ := r
      cases q
      obtain ⟨its, t1, ⟨o, m, t2, t3, t4, t5⟩, _⟩ := I.list (.inl (fz.rd nz a1))
      obtain ⟨as, e⟩ := all ds xs its h a2 t1
      exact ⟨_, .list t2 t3 t5 (by simpa using e)⟩
    | tup ds =>
      obtain ⟨a, xs, rfl, a1, a2⟩ := r
      cases q
      obtain ⟨its, t1, ⟨o, t2, t3, m, t4⟩, _⟩ := I.tuple (sqT_mono fz nz a1)
      obtain ⟨as, e⟩ := all ds xs its h a2 t1
      exact ⟨_, .tuple t2 t3 t4 (by simpa using e)⟩
    | _ => exact absurd h Bool.false_ne_true
end
/-- values of α as data -/
structure Enc (α : Type) [DecidableEq α] [Datum α] (f : α → D) : Prop where
  pd : ∀ a, pdD (f a) = Datum.toD a
  pl : ∀ a, DL.pl 60 (f a) = true
theorem enc_str : Enc Str D.str := ⟨fun _ => by rw [pdD]; rfl, fun _ => rfl⟩
theorem enc_int : Enc Int D.int := ⟨fun _ => by rw [pdD]; rfl, fun _ => rfl⟩
theorem enc_tup {α : Type} [DecidableEq α] [Datum α] {f : α → D} (h : ∀ a, pdD (f a) = Datum.toD a) (hp : ∀ a, DL.pl 59 (f a) = true) : Enc (Tup α) (fun t => .tup (t.items.map f)) := ⟨fun t => by
  show pdD (.tup _) = PyData.tuple _
  rw [pdD, pdL_map, List.map_map]
  exact congrArg PyData.tuple (List.map_congr_left fun a _ => h a), fun t => by
  show (t.items.map f).all (DL.pl 59) = true
  rw [List.all_map, List.all_eq_true]
  exact fun a _ => hp a⟩
theorem enc_strs : Enc (Tup Str) (fun t => .tup (stD t.items)) := enc_tup (fun _ => by rw [pdD]; rfl) (fun _ => rfl)
/-- x in, not in a list or tuple of values of α -/
def rInE (K : PySem.W.Frag) (α : Type) [DecidableEq α] [Datum α] (neg : Bool) : R2 := fun x y H Q => ∃ (f : α → D) (G : Hp) (t : Bool) (a : α) (ds : List α), Enc α f ∧ Exz G H ∧ Nz G ∧ Datum.depth α ≤ 30 ∧ Rp K G (f a) x ∧ Rp K G (if t then .tup (ds.map f) else .lst (ds.map f)) y ∧ Q (.bl (if neg then !decide (a ∈ ds) else decide (a ∈ ds))) H
theorem op_inE {X : Cx} {α : Type} [DecidableEq α] [Datum α] (hu : X.A.units + 64 < cLine) : OpR X (compareOp .In) (rInE X.K α false) := by
  intro pins s sg H x y v u Q I rx ry h
  obtain ⟨f, G, t, a, ds, en, fz, nz, hd, h1, h2, q⟩ := h
  obtain ⟨as, e1⟩ := reads_D I fz nz 60 (f a) x v (en.pl a) h1 rx
  rw [en.pd] at e1
  have hp : (ds.map f).all (pl 60) = true := by rw [List.all_map, List.all_eq_true]; exact fun b _ => en.pl b
  cases t with
  | true =>
    obtain ⟨bs, e2⟩ := reads_D I fz nz 61 (.tup (ds.map f)) y u hp h2 ry
    rw [pdD, pdL_map, List.map_map, show pdD ∘ f = Datum.toD from funext en.pd] at e2
    refine in_tuple_data e2 e1 (plainAll_map ds) (Datum.plain a) (room_items (depthAll_map ds) (by omega)) ?_
    rw [any_datum]
    exact ⟨.bl _, H, I, rfl, q⟩
  | false =>
    obtain ⟨bs, e2⟩ := reads_D I fz nz 61 (.lst (ds.map f)) y u hp h2 ry
    rw [pdD, pdL_map, List.map_map, show pdD ∘ f = Datum.toD from funext en.pd] at e2
    refine in_list_data e2 e1 (plainAll_map ds) (Datum.plain a) (room_items (depthAll_map ds) (by omega)) ?_
    rw [any_datum]
    exact ⟨.bl _, H, I, rfl, q⟩
theorem op_niE {X : Cx} {α : Type} [DecidableEq α] [Datum α] (hu : X.A.units + 64 < cLine) : OpR X (compareOp .NotIn) (rInE X.K α true) := by
  intro pins s sg H x y v u Q I rx ry h
  obtain ⟨f, G, t, a, ds, en, fz, nz, hd, h1, h2, q⟩ := h
  obtain ⟨as, e1⟩ := reads_D I fz nz 60 (f a) x v (en.pl a) h1 rx
  rw [en.pd] at e1
  have hp : (ds.map f).all (pl 60) = true := by rw [List.all_map, List.all_eq_true]; exact fun b _ => en.pl b
  cases t with
  | true =>
    obtain ⟨bs, e2⟩ := reads_D I fz nz 61 (.tup (ds.map f)) y u hp h2 ry
    rw [pdD, pdL_map, List.map_map, show pdD ∘ f = Datum.toD from funext en.pd] at e2
    refine notIn_tuple_data e2 e1 (plainAll_map ds) (Datum.plain a) (room_items (depthAll_map ds) (by omega)) ?_
    rw [any_datum]
    exact ⟨.bl _, H, I, rfl, q⟩
  | false =>
    obtain ⟨bs, e2⟩ := reads_D I fz nz 61 (.lst (ds.map f)) y u hp h2 ry
    rw [pdD, pdL_map, List.map_map, show pdD ∘ f = Datum.toD from funext en.pd] at e2
    refine notIn_list_data e2 e1 (plainAll_map ds) (Datum.plain a) (room_items (depthAll_map ds) (by omega)) ?_
    rw [any_datum]
    exact ⟨.bl _, H, I, rfl, q⟩
/-- < of values of α -/
def rLtE (K : PySem.W.Frag) (α : Type) [DecidableEq α] [DatumOrd α] : R2 := fun x y H Q => ∃ (f : α → D) (G : Hp) (a b : α), Enc α f ∧ Exz G H ∧ Nz G ∧ Datum.depth α ≤ 30 ∧ Rp K G (f a) x ∧ Rp K G (f b) y ∧ Q (.bl (DatumOrd.lt a b)) H
theorem op_ltE {X : Cx} {α : Type} [DecidableEq α] [DatumOrd α] (hu : X.A.units + 64 < cLine) : OpR X (compareOp .Lt) (rLtE X.K α) := by
  intro pins s sg H x y v u Q I rx ry h
  obtain ⟨f, G, a, b, en, fz, nz, hd, h1, h2, q⟩ := h
  obtain ⟨as, e1⟩ := reads_D I fz nz 60 (f a) x v (en.pl a) h1 rx
  obtain ⟨bs, e2⟩ := reads_D I fz nz 60 (f b) y u (en.pl b) h2 ry
  rw [en.pd] at e1 e2
  exact lt_datum ⟨as, e1⟩ ⟨bs, e2⟩ (by omega) ⟨.bl _, H, I, rfl, q⟩
section
variable {K : PySem.W.Frag} {B F F0 : Hp} {ro : Ro} {ka k1 k2 k3 kr : Cells} {ta : List (V × W)} {sg : L2.St} {H H' : Hp} {te tf tg : TE} {w x y z : W}
variable {α : Type} [DecidableEq α]
theorem rv_inE [Datum α] {f : α → D} {a : α} {ds : List α} {neg t : Bool} (en : Enc α f) (hd : Datum.depth α ≤ 30) (l1 : Pk ka x (f a)) (l2 : Pk ka y (if t then .tup (ds.map f) else .lst (ds.map f))) : RvD K (rInE K α neg) ka x y (.val (.bl (if neg then !decide (a ∈ ds) else decide (a ∈ ds)))) := fun B F0 ro ta sg H u v Q e h1 h2 q => by
  obtain ⟨F, g, ef⟩ := id e
  exact ⟨f, gH H, t, a, ds, en, gH_exz, gH_nz, hd, l1.get ef (ef.tm _ h1), l2.get ef (ef.tm _ h2), q _ _ (e.push_imm fun _ => rfl)⟩
theorem rv_ltE [DatumOrd α] {f : α → D} {a b : α} (en : Enc α f) (hd : Datum.depth α ≤ 30) (l1 : Pk ka x (f a)) (l2 : Pk ka y (f b)) : RvD K (rLtE K α) ka x y (.val (.bl (DatumOrd.lt a b))) := fun B F0 ro ta sg H u v Q e h1 h2 q => by
  obtain ⟨F, g, ef⟩ := id e
  exact ⟨f, gH H, a, b, en, gH_exz, gH_nz, hd, l1.get ef (ef.tm _ h1), l2.get ef (ef.tm _ h2), q _ _ (e.push_imm fun _ => rfl)⟩
/-- tuples of texts -/
theorem ev_ltT {ss ts : List Str} (h : EvD K te ro ka (.val (.tup (stD ss))) k1) (h2 : EvD K tf ro k1 (.val (.tup (stD ts))) k2) : EvD K (tOp (rLtE K (Tup Str)) te tf) ro ka (.val (.bl (listLt ss ts))) k2 :=
  ev_op h h2 (rv_ltE (f := fun t : Tup Str => .tup (stD t.items)) (a := ⟨ss⟩) (b := ⟨ts⟩) enc_strs (by decide) .v .v)
end

/-! ### the order of tuples of texts -/
theorem listLt_irr : ∀ xs : List Str, listLt xs xs = false
  | [] => rfl
  | x :: xs => by rw [listLt, if_pos rfl, listLt_irr xs]
theorem listLt_trans : ∀ {xs ys zs : List Str}, listLt xs ys = true → listLt ys zs = true → listLt xs zs = true
  | [], [], _, h, _ => by cases h
  | [], _ :: _, [], _, h => by cases h
  | [], _ :: _, _ :: _, _, _ => rfl
  | _ :: _, [], _, h, _ => by cases h
  | _ :: _, _ :: _, [], _, h => by cases h
  | x :: xs, y :: ys, z :: zs, h, h2 => by
    rw [listLt] at h h2 ⊢
    by_cases e : x = y
    · subst e
      rw [if_pos rfl] at h
      by_cases e2 : x = z
      · subst e2
        rw [if_pos rfl] at h2 ⊢
        exact listLt_trans h h2
      · rw [if_neg e2] at h2 ⊢
        exact h2
    · rw [if_neg e] at h
      by_cases e2 : y = z
      · subst e2
        rw [if_neg e]
        exact h
      · rw [if_neg e2] at h2
        have h3 : ltS x z = true := ltS_trans (a := x) (b := y) h h2
        have e3 : x ≠ z := fun e3 => by rw [e3, ltS_irr] at h3; cases h3
        rw [if_neg e3]
        exact h3
theorem listLt_tri : ∀ {xs ys : List Str}, listLt xs ys = false → listLt ys xs = false → xs = ys
  | [], [], _, _ => rfl
  | [], _ :: _, h, _ => by cases h
  | _ :: _, [], _, h => by cases h
  | x :: xs, y :: ys, h, h2 => by
    rw [listLt] at h h2
    by_cases e : x = y
    · subst e
      rw [if_pos rfl] at h h2
      rw [listLt_tri h h2]
    · rw [if_neg e] at h
      rw [if_neg (fun z => e z.symm)] at h2
      exact absurd (ltS_tri (a := x) (b := y) h h2) e
end DL

/-! DX: a dict comprehension stored in a local name on its own line (own work over the hand layer's dc_core). -/
namespace DL
open PySem PySem.Spec PyProof.Rows L2
/-- J holds in the block of a comprehension, wherever it is entered -/
abbrev Within (X : Cx) (scope : Scope) (J : Cx → Prop) : Prop := ∀ s H C cl fp, J (X.blk s H scope (compEnvC scope cl C X.env) fp)
section
variable {X : Cx} {i : Nat} {y : Str} {py pos spos : Pos} {kx vx tg iter : Expr} {ifs : List Expr} {scope : Scope} {own : List (Str × Nat)} {wi : TI} {g : TG} {tt : TT} {tk tv : TE}
/-- the finished dict goes into the local y; nothing is left of the block -/
theorem stored_local {pins : List (Addr × Obj)} {sg : L2.St} {De : Ends} (nd : X.N.Nodup) (at_ : X.N[i]? = some y) (loc : X.env.scope.names.lookup y = some .local) (L C : Addr) (s : Shared) (m : Str → Option Value) (H : Hp)
    (I : Inv X pins sg H s) (want : De.nx (sg.set i (some (.ref L))) H) (space : s.heap.Ns C m) (own : FpOk X pins H C) :
    compPost (model X.prog X.w) X.A X.xe (some (assign (.Name y py) X.env)) (fun _ s1 => SP X pins De .next s1) (.ref L) C (.ok .next) s := by
  refine wpAny_assign_Name (store_ok2 (v := V.ref L) I nd at_ (.inl loc) rfl ?_ (.inr loc))
  rintro s2 I2 ⟨a, same, which⟩
  have apart : C ≠ a := fun e => by
    subst e
    rcases which with e | e
    · exact own.2.1 e
    · exact own.2.2.2.2.1 _ _ e rfl
  exact ⟨m, space.sameBut same apart, fun h3 last => ⟨_, H, I2.turned (t' := s2.toks) (fun b o ne e => (last.2 b ne).trans e) own.1 own.2.1 own.2.2.2.1 own.2.2.2.2.1 own.2.2.2.2.2, want⟩⟩
theorem ps_setDc (calm : X.calm = true) (nd : X.N.Nodup) (at_ : X.N[i]? = some y) (loc : X.env.scope.names.lookup y = some .local) (swap : swapsWith (.DictComp kx vx [⟨tg, iter, ifs, 0⟩] scope pos) (some (.Name y py)) spos.line X.env = pure true)
    (src : PI X tg iter wi) (blk : BlkOk X.N X.env.scope scope own) (ptg : Within X scope fun Y => PG Y tg g) (ptt : Within X scope fun Y => PTs Y ifs tt) (pk : Within X scope fun Y => PE Y kx tk) (pv : Within X scope fun Y => PE Y vx tv)
    (fold : ∀ x, foldedSetIterable iter X.env x = pure x := by intro _; rfl) : PS X (.Assign [.Name y py] (.DictComp kx vx [⟨tg, iter, ifs, 0⟩] scope pos) spos) (tAsg (tDc wi g tt tk tv (own.map (·.2))) (gName i)) := ⟨fun pins s sg H De I want => by
  have made := dc_core (Q := fun x H1 => gName i x sg H1 De.nx) (pos := pos) (pos' := firstIterPos [⟨tg, iter, ifs, 0⟩] pos) (use := some (assign (.Name y py) X.env)) (Qf := fun _ s1 => SP X pins De .next s1) calm nd I src blk ptg ptt pk pv fold want
    fun L C s1 m H1 I1 q space f => stored_local nd at_ loc L C s1 m H1 I1 q space f
  rw [exec_Assign_Name_used _ _ _ _ swap]
  exact wpAny_bind (wpAny_standAt (wpAny_bind (wpAny_bind (wpAny_mono made (fun _ _ z => wpAny_pure (wpAny_pure z)) fun _ _ z => z))))⟩
end
end DL

/-! DY: != of two tuples whose items are equal, some by an own == (own work; the equality of the items is the hand layer's EqG). -/
namespace DL
open PySem L2 PySem.SeqAt
section
variable {prog : Program} {w : World}
/-- pair by pair the == says yes, whatever objects it makes on the way; then fin holds -/
def Goes (prog : Program) (w : World) (A : Around) (E : Value → Shared → Prop) (fin : Shared → Prop) : List (Value × Value) → Shared → Prop
  | [], s => fin s
  | p :: r, s => wpAny (model prog w) A (eqBool p.1 p.2) (fun yes s1 => yes = true ∧ Goes prog w A E fin r s1) E s
theorem ne_goes {A : Around} {R : Result → Shared → Prop} {l b : Addr} {ol ob : Obj} {us ws : Array Value} {s : Shared} (at1 : s.heap.get? l = some ol) (k1 : ol.cls = .type "tuple") (d1 : ∃ n, ol.data = .seq us n) (at2 : s.heap.get? b = some ob) (k2 : ob.cls = .type "tuple") (d2 : ∃ n, ob.data = .seq ws n)
    (same : us.size = ws.size) (go : Goes prog w A.in1 (fun e s1 => R (.error e) s1) (fun s1 => R (.ok (.ret (.bool false))) s1) (us.toList.zip ws.toList) s) :
    wpAny (model prog w) A.in1 (Builtin.«tuple.__ne__» ⟨[.ref l, .ref b], []⟩) (GQ.FinOf prog w A R) (fun e s1 => R (.error e) s1) s := by
  obtain ⟨c1, dd1, da1, sl1⟩ := ol
  obtain ⟨c2, dd2, da2, sl2⟩ := ob
  obtain ⟨n1, d1⟩ := d1
  obtain ⟨n2, d2⟩ := d2
  cases k1
  cases k2
  cases d1
  cases d2
  have isTuple := AutoSeq1.sub_tuple_tuple
  obtain ⟨heap, gens, drawn, toks, os⟩ := s
  wp_walk using AutoSeq1.wpAny_loadPart' at1, AutoSeq1.wpAny_loadPart' at2, wpAny_forIn_list _ (fun left acc s1 => acc.1 = none ∧ Goes prog w A.in1 (fun e s1 => R (.error e) s1) (fun s1 => R (.ok (.ret (.bool false))) s1) left s1) _
  case turn =>
    rintro ⟨u, v⟩ left acc s1 ⟨_, now⟩
    refine wpAny_bind (wpAny_mono now (fun yes s2 z => ?_) fun _ _ z => z)
    obtain ⟨rfl, later⟩ := z
    wp_walk
    exact ⟨rfl, later⟩
  case fin =>
    rintro ⟨acc, u⟩ s1 ⟨none_, over⟩
    cases none_
    have over : R (.ok (.ret (.bool false))) s1 := over
    wp_walk
    simpa only [Builtin.Tuple.tupleCompareSizes, same, bne_self_eq_false] using over
  case h => exact ⟨rfl, go⟩
end
section
variable {X : Cx} {n : Nat} {D : Eqv}
/-- items that are equal by D go through -/
theorem goes_items (mon : Mon D) (eq : EqG X n D) {A : Around} (sub : L2.Sub X n A) {pins : List (Addr × Obj)} {sg : L2.St} {fin : Shared → Prop} :
    ∀ (xs ys : List V) (us ws : List Value) (H0 H : Hp) (s : Shared), Prs D xs ys H0 → Vals xs us → Vals ys ws → L2.Ext H0 H → Inv X pins sg H s → (∀ H1 s1, L2.Ext H0 H1 → Inv X pins sg H1 s1 → fin s1) → Goes X.prog X.w A X.xe fin (us.zip ws) s
  | [], ys, us, ws, H0, H, s, p, r1, r2, x, I, f => by cases r1; exact f H s x I
  | x0 :: xs, [], us, ws, H0, H, s, p, r1, r2, x, I, f => by have := p.1; cases this
  | x0 :: xs, y0 :: ys, us, ws, H0, H, s, p, r1, r2, x, I, f => by
    cases r1 with
    | cons a1 b1 => cases r2 with
      | cons a2 b2 =>
        have d : D x0 y0 H0 := p.2 0 x0 y0 rfl rfl
        have rest : Prs D xs ys H0 := ⟨by have := p.1; simpa using this, fun i u v h1 h2 => p.2 (i + 1) u v (by simpa using h1) (by simpa using h2)⟩
        refine wpAny_mono (eq A pins s sg H x0 y0 _ _ sub I a1 a2 (mon _ _ _ _ x d)) (fun yes s1 z => ?_) fun _ _ z => z
        obtain ⟨e, H1, I1, x1⟩ := z
        exact ⟨e, goes_items mon eq sub xs ys _ _ H0 H1 s1 rest b1 b2 (x.trans x1) I1 f⟩
def rNeTup (K : PySem.W.Frag) (D : Eqv) : R2 := fun x y H Q => ∃ a b xs ys, x = .ref a ∧ y = .ref b ∧ SqT K H a xs ∧ SqT K H b ys ∧ Prs D xs ys H ∧ ∀ H', L2.Ext H H' → Q (.bl false) H'
theorem op_neTup (mon : Mon D) (eq : EqG X n D) (room : Room (n + 1) X.A) : OpR X (compareOp .NotEq) (rNeTup X.K D) := fun pins s sg H x y v u Q I rx ry want => by
  obtain ⟨a, b, xs, ys, ex, ey, t1, t2, p, q⟩ := want
  subst ex ey
  cases rx
  cases ry
  have ⟨us, r1, ⟨o1, g1, c1, d1⟩, _⟩ := I.tuple t1
  have ⟨ws, r2, ⟨o2, g2, c2, d2⟩, _⟩ := I.tuple t2
  have size : us.toArray.size = ws.toArray.size := by rw [us.size_toArray, ws.size_toArray, ← r1.length, ← r2.length, p.1]
  have sub : L2.Sub X (n + 1) X.A := ⟨room, rfl⟩
  have go : Goes X.prog X.w X.A.in1 X.xe (fun s1 => Value.bool false ≠ .notImplemented ∧ EP X pins sg Q (.bool false) s1) (us.zip ws) s :=
    goes_items mon eq sub.in1 xs ys us ws H H s p r1 r2 L2.Ext.rfl' I fun H1 s1 x1 I1 => ⟨(fun z => nomatch z), .bl false, H1, I1, rfl, q H1 x1⟩
  refine wpAny_richCompare_same_room (op := .NotEq) ⟨o1, g1, c1⟩ ⟨o2, g2, c2⟩ PySem.F.slot_tuple_ne ?_ sub.room.units0
  exact GQ.call_here PySem.F.slot_tuple_ne ⟨o1, g1, c1⟩ PySem.F.entry_tuple_ne (PySem.F.args_tuple_ne_2 _ _) (ne_goes (R := wants (fun v s1 => v ≠ .notImplemented ∧ EP X pins sg Q v s1) X.xe) g1 c1 d1 g2 c2 d2 size (by rw [us.toList_toArray, ws.toList_toArray]; exact go))
end
end DL
namespace DL
open PySem L2 PySem.W
/-- the own == of the class at C says yes, by its contract -/
def REq (K : PySem.W.Frag) (Cc : Ct) (a b : Addr) (H : Hp) : Prop := ∃ (G : Hp) (d e : D), Nz G ∧ Exz G H ∧ Rp K G d (.ref a) ∧ Rp K G e (.ref b) ∧ Cc [.val d, .val e] [] (Rt (.bl true) [])
theorem REq.mon {K : PySem.W.Frag} {Cc : Ct} {a b : Addr} {H H' : Hp} (x : L2.Ext H H') (h : REq K Cc a b H) : REq K Cc a b H' :=
  let ⟨G, d, e, n, z, r1, r2, c⟩ := h
  ⟨G, d, e, n, z.sub x, r1, r2, c⟩
theorem spEq_sp {K : PySem.W.Frag} {Cc : Ct} {vs : List V} {H : Hp} {Q : VK} {E : XK} (h : spEq (REq K Cc) vs H Q E) : spC K Cc vs H Q E := by
  obtain ⟨a, b, rfl, ⟨G, d, e, n, z, r1, r2, c⟩, q⟩ := h
  refine ⟨H, G, [.val d, .val e], [], Rt (.bl true) [], c, rfl, ⟨G, Gr.refl _ _, ⟨n, z, Sub.refl H, List.Pairwise.nil, fun p hp => by simp at hp, rfl, fun i w h => by simp at h, fun p hp => ?_⟩⟩, fun d' ka v H' o en => ?_, fun C fs k dx H' o _ => ?_, fun C k H' o _ => ?_⟩
  · rcases List.mem_cons.mp hp with rfl | hp
    · exact r1
    · rcases List.mem_cons.mp hp with rfl | hp
      · exact r2
      · simp at hp
  · obtain ⟨o1, o2⟩ := o
    cases o1
    obtain ⟨F, g, ef⟩ := en
    have hv : v = .bl true := ef.tm _ List.mem_cons_self
    subst hv
    exact q H' ef.fr
  · obtain ⟨o1, _⟩ := o
    cases o1
  · obtain ⟨o1, _⟩ := o
    cases o1
/-- what is equal within a tuple: flat things, objects of the class at C -/
def DTE (K : PySem.W.Frag) (C : Addr) (Cc : Ct) : Eqv := fun x y H => DFlat x y H ∨ DIns C (REq K Cc) x y H
abbrev rNeTE (K : PySem.W.Frag) (C : Addr) (Cc : Ct) : R2 := rNeTup K (DTE K C Cc)
theorem dte_mon {K : PySem.W.Frag} {C : Addr} {Cc : Ct} : Mon (DTE K C Cc) := mon_flat.or (mon_ins fun _ _ _ _ e r => r.mon e)
theorem op_neT {X : Cx} {k : Nat} {C f : Addr} {ps : List Str} {Cc : Ct} {E : XK} (m : Sm X.K C "__eq__" f) (F : Fn X.prog X.w X.K X.mg X.base k f ps Cc) (hr : Room (k + 1) X.A) (hx : Passes (L2.CX X.prog X.w) X E) : OpR X (compareOp .NotEq) (rNeTE X.K C Cc) := by
  obtain ⟨fd, F, hb⟩ := F
  exact op_neTup dte_mon ((eqG_flat.mono (Nat.zero_le k)).or (eqG_ins (F.imp fun _ _ _ _ h => spEq_sp h) m.at_ m.fn hb hx)) hr
section
variable {K : PySem.W.Frag} {B F F0 : Hp} {ro : Ro} {ka k1 k2 : Cells} {ta : List (V × W)} {sg : L2.St} {H H' : Hp} {te tf : TE} {C : Addr} {Cc : Ct}
theorem En.ext (e : En K B F0 ro ka ta sg H) (x : L2.Ext H H') : En K B F0 ro ka ta sg H' := by
  obtain ⟨F, g, q⟩ := e
  refine ⟨F, g, q.nz, q.fz.sub x, fun a o h => x _ _ (q.fr _ _ h), q.nd, fun p hp => ?_, q.ln, q.sl, q.tm⟩
  obtain ⟨h1, h2, h3⟩ := q.ce p hp
  refine ⟨h1, h2, ?_⟩
  obtain ⟨a, n⟩ := p
  cases n with
  | lst ds => obtain ⟨xs, e, r⟩ := h3; exact ⟨xs, x _ _ e, r⟩
  | dic ds => obtain ⟨xs, e, r⟩ := h3; exact ⟨xs, x _ _ e, r⟩
  | dit ds => obtain ⟨xs, e, r⟩ := h3; exact ⟨xs, x _ _ e, r⟩
  | ldic o xs ds => obtain ⟨e, r⟩ := h3; exact ⟨x _ _ e, r⟩
  | ins C ds => obtain ⟨dx, xs, e, r⟩ := h3; exact ⟨dx, xs, x _ _ e, r⟩
  | xd ds => obtain ⟨xs, e, r⟩ := h3; exact ⟨xs, x _ _ e, r⟩
/-- item by item: an object of the class, or flat -/
def TeOk (C : Addr) (Cc : Ct) : List D → List D → Prop
  | [], [] => True
  | .ins c fs :: ds, .ins c' gs :: es => c = C ∧ c' = C ∧ Cc [.val (.ins c fs), .val (.ins c' gs)] [] (Rt (.bl true) []) ∧ TeOk C Cc ds es
  | .int i :: ds, .int j :: es => i = j ∧ TeOk C Cc ds es
  | .str i :: ds, .str j :: es => i = j ∧ TeOk C Cc ds es
  | _, _ => False
theorem prs_of (nz : Nz F) (fz : Exz F H) : ∀ {ds es : List D} {xs ys : List V}, TeOk C Cc ds es → RpL K F ds xs → RpL K F es ys → Prs (DTE K C Cc) xs ys H
  | [], [], xs, ys, _, h1, h2 => by rw [show xs = [] from h1, show ys = [] from h2]; exact Prs.nil
  | d :: ds, e :: es, xs, ys, t, h1, h2 => by
    obtain ⟨x, xs, rfl, r1, r2⟩ := h1
    obtain ⟨y, ys, rfl, s1, s2⟩ := h2
    cases d <;> cases e <;> first | (exact absurd t (fun z => z)) | skip
    · obtain ⟨e1, t⟩ := t
      cases (show x = _ from r1)
      cases (show y = _ from s1)
      subst e1
      refine Prs.cons (.inl ⟨rfl, rfl, ?_⟩) (prs_of nz fz t r2 s2)
      simp [eqV]
    · obtain ⟨e1, t⟩ := t
      cases (show x = _ from r1)
      cases (show y = _ from s1)
      subst e1
      refine Prs.cons (.inl ⟨rfl, rfl, ?_⟩) (prs_of nz fz t r2 s2)
      simp [eqV]
    · obtain ⟨ec, ec', hc, t⟩ := t
      rw [ec] at r1 hc
      rw [ec'] at s1 hc
      have r1' := r1
      have s1' := s1
      obtain ⟨a, dx, fs, rfl, ha, _⟩ := r1'
      obtain ⟨b, dy, gs, rfl, hb, _⟩ := s1'
      exact Prs.cons (.inr ⟨a, b, dx, dy, fs, gs, rfl, rfl, rd_ins nz fz ha, rd_ins nz fz hb, F, _, _, nz, fz, r1, s1, hc⟩) (prs_of nz fz t r2 s2)
  | [], _ :: _, _, _, t, _, _ => by simp [TeOk] at t
  | d :: ds, [], _, _, t, _, _ => by cases d <;> simp [TeOk] at t
theorem ev_neT {ds es : List D} (h : EvD K te ro ka (.val (.tup ds)) k1) (h2 : EvD K tf ro k1 (.val (.tup es)) k2) (t : TeOk C Cc ds es) : EvD K (tOp (rNeTE K C Cc) te tf) ro ka (.val (.bl false)) k2 := ev_op h h2 fun B F0 ro ta sg H u v Q e hu hv q => by
  obtain ⟨F, g, ef⟩ := id e
  obtain ⟨a, xs, rfl, s1, r1⟩ := Lk.vt.get ef (ef.tm _ hu)
  obtain ⟨b, ys, rfl, s2, r2⟩ := Lk.vt.get ef (ef.tm _ hv)
  exact ⟨a, b, xs, ys, rfl, rfl, s1, s2, prs_of ef.nz ef.fz t r1 r2, fun H' x => q _ _ ((e.ext x).push_imm fun _ => rfl)⟩
end
end DL

/-! DZ: evaluation by a relation (own work). -/
namespace DL
open PySem L2 PySem.W
/-- te ends with some value and cells of which P tells -/
def EvR (K : PySem.W.Frag) (te : TE) (ro : Ro) (ka : Cells) (P : W → Cells → Prop) : Prop := ∀ B F0 ta sg H (Q : VK), En K B F0 ro ka ta sg H → (∀ w k v H', P w k → En K B F0 ro k ((v, w) :: ta) sg H' → Q v H') → te sg H Q
def RvR (K : PySem.W.Frag) (r : R2) (ka : Cells) (x y : W) (P : W → Cells → Prop) : Prop := ∀ B F0 ro ta sg H u v (Q : VK), En K B F0 ro ka ta sg H → (u, x) ∈ ta → (v, y) ∈ ta → (∀ w k t H', P w k → En K B F0 ro k ((t, w) :: ta) sg H' → Q t H') → r u v H Q
section
variable {K : PySem.W.Frag} {B F F0 : Hp} {ro : Ro} {ka k1 k2 k3 kr : Cells} {ta : List (V × W)} {sg : L2.St} {H H' : Hp} {te tf tg : TE} {tr : TA} {w x y z : W} {n : Nd} {P P2 : W → Cells → Prop} {De : Ends} {u : TS} {E : XK} {r : R2}
theorem EvD.toR (h : EvD K te ro ka w k1) : EvR K te ro ka (fun w' k => w' = w ∧ k = k1) := fun B F0 ta sg H Q e q => h B F0 ta sg H Q e fun v H' e' => q w k1 v H' ⟨rfl, rfl⟩ e'
theorem En.tmA (e : En K B F0 ro ka ta sg H) (a : Addr) : En K B F0 ro ka ((.ref a, .val (.adr a)) :: ta) sg H := e.push_imm fun _ => rfl
theorem EvN.toR (h : EvN K te ro ka n k1) : EvR K te ro ka (fun w' k => ∃ a, w' = .val (.adr a) ∧ k = k1 ++ [(a, n)]) := fun B F0 ta sg H Q e q => h B F0 ta sg H Q e fun a H' e' => q _ _ _ H' ⟨a, rfl, rfl⟩ (e'.tmA a)
theorem EvR.imp (h : EvR K te ro ka P) (i : ∀ w k, P w k → P2 w k) : EvR K te ro ka P2 := fun B F0 ta sg H Q e q => h B F0 ta sg H Q e fun w k v H' p => q w k v H' (i w k p)
theorem RvD.toR (h : RvD K r ka x y z) : RvR K r ka x y (fun w' k => w' = z ∧ k = ka) := fun B F0 ro ta sg H u v Q e h1 h2 q => h B F0 ro ta sg H u v Q e h1 h2 fun t H' e' => q z ka t H' ⟨rfl, rfl⟩ e'
theorem RvN.toR (h : RvN K r ka x y n) : RvR K r ka x y (fun w' k => ∃ a, w' = .val (.adr a) ∧ k = ka ++ [(a, n)]) := fun B F0 ro ta sg H u v Q e h1 h2 q => h B F0 ro ta sg H u v Q e h1 h2 fun a H' e' => q _ _ _ H' ⟨a, rfl, rfl⟩ (e'.tmA a)
theorem RvR.imp (h : RvR K r ka x y P) (i : ∀ w k, P w k → P2 w k) : RvR K r ka x y P2 := fun B F0 ro ta sg H u v Q e h1 h2 q => h B F0 ro ta sg H u v Q e h1 h2 fun w k t H' p => q w k t H' (i w k p)
/-- a call whose end a word tells -/
theorem evr_call {Cc : Ct} {ws : List W} {out : Oc} (kr : Cells) (ha : EvA K tr ro ka ws (k1 ++ kr)) (hC : Cc ws k1 out) (ho : ∀ o k, out o k → ∃ d, o = .ret d) : EvR K (tCall (spC K Cc) [] E tr) ro ka (fun w k => ∃ d k2, out (.ret d) k2 ∧ w = .val d ∧ k = k2 ++ kr) := fun B F0 ta sg H Q e q =>
  ha B F0 ta sg H _ e fun vs H1 hl e1 => by
    rw [List.append_nil]
    exact sp_rel e1 hl hC ho fun d k2 v H' o e2 => q _ _ v H' ⟨d, k2, o, rfl, rfl⟩ e2
theorem EvR.op (h : EvR K te ro ka P) (h2 : ∀ w k, P w k → ∃ y k2, EvD K tf ro k y k2 ∧ RvR K r k2 w y P2) : EvR K (tOp r te tf) ro ka P2 := fun B F0 ta sg H Q e q =>
  h B F0 ta sg H _ e fun w k v H1 p e1 => by
    obtain ⟨y, k2, hb, hr⟩ := h2 w k p
    exact hb B F0 _ sg H1 _ e1 fun v2 H2 e2 => hr B F0 ro _ sg H2 v v2 Q e2 (List.mem_cons_of_mem _ List.mem_cons_self) List.mem_cons_self fun w3 k3 t H3 p3 e3 => q w3 k3 t H3 p3 (e3.held fun z hz => by
      rcases List.mem_cons.mp hz with rfl | hz
      · exact List.mem_cons_self
      · exact List.mem_cons_of_mem _ (List.mem_cons_of_mem _ (List.mem_cons_of_mem _ hz)))
theorem g_asgR {i : Nat} (h : EvR K te ro ka P) (k : ∀ w k1, P w k1 → Gp K B F0 ta De.nx (ro.set i (some w)) k1) : Gp K B F0 ta (tAsg te (gName i) De) ro ka := fun sg H e => h B F0 ta sg H _ e fun w k1 v H1 p e1 => k w k1 p _ _ (e1.set i)
theorem q_asgR {i : Nat} (h : EvR K te ro ka P) (k : ∀ w k1, P w k1 → Gp K B F0 ta (u De) (ro.set i (some w)) k1) : Gp K B F0 ta (tSeq (tAsg te (gName i)) u De) ro ka := g_asgR (De := { De with nx := u De }) h k

/-! ### methods, min -/
theorem evr_meth {Cc : Ct} {ws : List W} {out : Oc} {C : Addr} {m : Str} {fs : List (Str × D)} {b : Bool} (kr : Cells) (h : EvD K te ro ka w k1) (l : Io k1 w C fs b) (hm : fs.lookup m = none) (ha : EvA K tr ro k1 ws (k2 ++ kr)) (hC : Cc (w :: ws) k2 out) (ho : ∀ o k, out o k → ∃ d, o = .ret d) : EvR K (tMeth C m (spC K Cc) [] E te tr) ro ka (fun w' k => ∃ d k3, out (.ret d) k3 ∧ w' = .val d ∧ k = k3 ++ kr) := fun B F0 ta sg H Q e q =>
  h B F0 ta sg H _ e fun v H1 e1 => by
    obtain ⟨F, g, ef⟩ := id e1
    obtain ⟨a, dx, xs, rfl, ha1, rx⟩ := l.get ef (ef.tm _ List.mem_cons_self)
    refine ⟨a, dx, xs, rfl, ha1, rpf_none rx hm, ha B F0 _ sg H1 _ e1 fun vs H2 hl e2 => ?_⟩
    rw [List.append_nil]
    refine sp_rel (ws := w :: ws) (vs := .ref a :: vs) (kr := kr) (ta := ta) (e2.held fun p hp => ?_) (by rw [List.length_cons, List.length_cons, hl]) hC ho fun d k3 v3 H' o e3 => q _ _ v3 H' ⟨d, k3, o, rfl, rfl⟩ e3
    have hp' : p ∈ (V.ref a, w) :: (vs.zip ws ++ ta) := hp
    rcases List.mem_cons.mp hp' with rfl | hp
    · exact List.mem_append_right _ List.mem_cons_self
    · rcases List.mem_append.mp hp with hp | hp
      · exact List.mem_append_left _ hp
      · exact List.mem_append_right _ (List.mem_cons_of_mem _ hp)
theorem EvR.d (h : EvR K te ro ka P) (hP : ∀ w' k, P w' k → w' = w ∧ k = k1) : EvD K te ro ka w k1 := fun B F0 ta sg H Q e q => h B F0 ta sg H Q e fun w' k v H' p e' => by
  obtain ⟨rfl, rfl⟩ := hP w' k p
  exact q v H' e'
/-- a method that works on no cells -/
theorem ev_methP {Cc : Ct} {ws : List W} {C : Addr} {m : Str} {fs : List (Str × D)} {b : Bool} {d : D} (h : EvD K te ro ka w k1) (l : Io k1 w C fs b) (hm : fs.lookup m = none) (ha : EvA K tr ro k1 ws k2) (hC : Cc (w :: ws) [] (Rt d [])) : EvD K (tMeth C m (spC K Cc) [] E te tr) ro ka (.val d) k2 :=
  (evr_meth (k2 := []) k2 h l hm ha hC fun o k ho => ⟨d, ho.1⟩).d fun w' k ⟨d', k3, ho, e1, e2⟩ => by
    obtain ⟨h1, h2⟩ := ho
    cases h1
    exact ⟨e1, by rw [e2, h2]; rfl⟩
def rMin2 : List V → Hp → VK → Prop := fun xs H Q => ∃ i j, xs = [.int i, .int j] ∧ Q (.int (if j < i then j else i)) H
theorem ev_min2 {i j : Int} (h : EvD K te ro ka (.val (.int i)) k1) (h2 : EvD K tf ro k1 (.val (.int j)) k2) : EvD K (tCB (fun xs H Q => ∃ i j, xs = [.int i, .int j] ∧ Q (.int (if j < i then j else i)) H) (tCons te (tCons tf tNil))) ro ka (.val (.int (if j < i then j else i))) k2 := ev_cb (ea2 h h2) fun B F0 ro ta sg H us Q e hl hm q => by
  obtain ⟨u, v, rfl, hu, hv⟩ := zip_two hl hm
  have h1 := e.tm_int hu
  have h2 := e.tm_int hv
  subst h1 h2
  exact ⟨i, j, rfl, q _ _ (e.push_imm fun _ => rfl)⟩

theorem lkN {β : Type} {f g : Str} {v : β} (h : f ≠ g) : List.lookup f [(g, v)] = none := by
  have : (f == g) = false := beq_eq_false_iff_ne.mpr h
  simp [List.lookup, this]
/-- the pool, wherever the def holds it -/
theorem q_turn {s0 w : W} {n : Nat} {Pp : L2.St → Hp → Prop} (hl : ro.length = n + 2) (h0 : ro[0]? = some (some s0)) (h : Gp K B F0 ta Pp (some s0 :: some w :: List.replicate n none) ka) : Gp K B F0 ta Pp (ro.set 1 (some w)) ka := by
  refine h.forget ?_ fun i w' hi => ?_
  · rw [List.length_cons, List.length_cons, List.length_replicate, List.length_set, hl]
  · cases i with
    | zero =>
      cases hi
      rw [List.getElem?_set_ne (by decide)]
      exact h0
    | succ i =>
      cases i with
      | zero =>
        cases hi
        exact List.getElem?_set_self (by omega)
      | succ i =>
        have hi' : (List.replicate n (none : Option W))[i]? = some (some w') := hi
        obtain ⟨h1, h2⟩ := List.getElem?_eq_some_iff.mp hi'
        rw [List.getElem_replicate] at h2
        cases h2
theorem pl_two (ss : List Str) (k : Int) : pl 61 (.tup [.tup (stD ss), .int k]) = true := by
  show ((stD ss).all (pl 59) && (true && true)) = true
  rw [pl_stD]
  rfl
theorem bits_le {j : Int} (h : 0 ≤ j ∧ j < 2 ^ 32) : Builtin.Int.intBits j ≤ 64 := by
  unfold Builtin.Int.intBits
  split
  · exact Nat.zero_le _
  · rename_i q
    have hz : j.natAbs ≠ 0 := fun z => q (beq_iff_eq.mpr (by omega))
    have := (Nat.log2_lt hz (k := 32)).mpr (by omega)
    omega
theorem ev_mulV {i j : Int} (h : EvD K te ro ka (.val (.int i)) k1) (h2 : EvD K tf ro k1 (.val (.int j)) k2) (c : IntMulOk i j) : EvD K (tOp (rMulV K) te tf) ro ka (.val (.int (i * j))) k2 := ev_op h h2 (rvd_l (rvd_l (rv_I c fun _ => rfl)))
theorem inV_strs (s : Str) : ∀ ss : List Str, inV (.str s) (ss.map V.str) = decide (s ∈ ss)
  | [] => rfl
  | t :: ss => by
    show ((t == s) || inV (.str s) (ss.map V.str)) = _
    rw [inV_strs s ss, Bool.eq_iff_iff, Bool.or_eq_true, decide_eq_true_eq, decide_eq_true_eq, List.mem_cons, beq_iff_eq]
    exact ⟨fun h => h.elim (fun q => .inl q.symm) .inr, fun h => h.elim (fun q => .inl q.symm) .inr⟩
theorem all_flat : ∀ ss : List Str, (ss.map V.str).all flatV = true
  | [] => rfl
  | t :: ss => by
    rw [List.map_cons, List.all_cons, all_flat ss]
    rfl
theorem rv_inL {neg tt b : Bool} {s : Str} {ss : List Str} (l : Lk ka y tt (stD ss) b) : RvD K (rIn K neg) ka (.val (.str s)) y (.val (.bl (if neg then !decide (s ∈ ss) else decide (s ∈ ss)))) := fun B F0 ro ta sg H u v Q e h1 h2 q => by
  obtain ⟨F, g, ef⟩ := id e
  have hu := e.tm_str h1
  subst hu
  obtain ⟨a, xs, rfl, s1, r1⟩ := l.get ef (ef.tm _ h2)
  have ex := rpl_strs r1
  subst ex
  refine ⟨a, ss.map V.str, rfl, s1.sq, rfl, all_flat ss, ?_⟩
  rw [inV_strs]
  exact q _ _ (e.push_imm fun _ => rfl)
theorem ev_inL {tt b : Bool} {s : Str} {ss : List Str} (h : EvD K te ro ka (.val (.str s)) k1) (h2 : EvD K tf ro k1 y k2) (l : Lk k2 y tt (stD ss) b) : EvD K (tOp (rInU K) te tf) ro ka (.val (.bl (decide (s ∈ ss)))) k2 := ev_op h h2 (rvd_r (rv_inL (neg := false) l))
theorem ev_niL {tt b : Bool} {s : Str} {ss : List Str} (h : EvD K te ro ka (.val (.str s)) k1) (h2 : EvD K tf ro k1 y k2) (l : Lk k2 y tt (stD ss) b) : EvD K (tOp (rNiU K) te tf) ro ka (.val (.bl (!decide (s ∈ ss)))) k2 := ev_op h h2 (rvd_r (rv_inL (neg := true) l))
theorem ei_map {α : Type} {ts : List α} {f : α → D} (h : EvD K te ro ka (.val (.lst (ts.map f))) k1) : EvI K (iSeq K te) ro ka (ts.map fun t => W.val (f t)) (fun _ => True) k1 := by
  have := ei_seq h .vl
  have e : (ts.map f).map (part false) = ts.map fun t => W.val (f t) := by rw [List.map_map]; rfl
  rw [e] at this
  exact this
theorem ei_strs {ss : List Str} (h : EvD K te ro ka (.val (.lst (stD ss))) k1) : EvI K (iSeq K te) ro ka (ss.map fun s => W.val (.str s)) (fun _ => True) k1 := by
  have := ei_seq h .vl
  unfold stD at this
  rw [List.map_map] at this
  exact this

/-! ### targets -/
/-- the target g takes a value of w: the slots behind it -/
def AsT (K : PySem.W.Frag) (g : TG) (w : W) (ro ro' : Ro) : Prop := ∀ B F0 ka ta sg H v (Q : L2.St → Hp → Prop), En K B F0 ro ka ta sg H → (v, w) ∈ ta → (∀ sg', En K B F0 ro' ka ta sg' H → Q sg' H) → g v sg H Q
def AsL (K : PySem.W.Frag) (t : TGs) (ws : List W) (ro ro' : Ro) : Prop := ∀ B F0 ka ta sg H vs (Q : L2.St → Hp → Prop), En K B F0 ro ka ta sg H → vs.length = ws.length → (∀ p ∈ vs.zip ws, p ∈ ta) → (∀ sg', En K B F0 ro' ka ta sg' H → Q sg' H) → t vs sg H Q
variable {ro' ro2 : Ro} {g : TG} {t : TGs} {ws : List W}
theorem at_n {i : Nat} : AsT K (gName i) w ro (ro.set i (some w)) := fun B F0 ka ta sg H v Q ⟨F, g, e⟩ h q => q _ ⟨F, g, e.set (e.tm _ h) i⟩
theorem al_nil : AsL K gNil [] ro ro := fun B F0 ka ta sg H vs Q e hl h q => ⟨List.eq_nil_of_length_eq_zero hl, q _ e⟩
theorem al_cons (h1 : AsT K g w ro ro2) (h2 : AsL K t ws ro2 ro') : AsL K (gCons g t) (w :: ws) ro ro' := fun B F0 ka ta sg H vs Q e hl h q => by
  cases vs with
  | nil => cases hl
  | cons v r => exact ⟨v, r, rfl, h1 B F0 ka ta sg H v _ e (h _ List.mem_cons_self) fun sg1 e1 => h2 B F0 ka ta sg1 H r Q e1 (by simpa using hl) (fun p hp => h p (List.mem_cons_of_mem _ hp)) q⟩
theorem at_tup {ds : List D} {m : Nat} (hm : ds.length = m) (h : AsL K t (ds.map W.val) ro ro') : AsT K (gTup K m t) (.val (.tup ds)) ro ro' := fun B F0 ka ta sg H v Q e hv q => by
  obtain ⟨F, gr, ef⟩ := id e
  obtain ⟨a, xs, rfl, s1, r1⟩ := Lk.vt.get ef (ef.tm _ hv)
  refine ⟨a, xs, rfl, s1, by rw [rpl_len r1, hm], h B F0 ka (xs.zip (ds.map W.val) ++ ta) sg H xs Q ?_ (by rw [List.length_map, rpl_len r1]) (fun p hp => List.mem_append_left _ hp) fun sg' e' => q sg' (e'.held fun p hp => List.mem_append_right _ hp)⟩
  refine ⟨F, gr, ⟨ef.nz, ef.fz, ef.fr, ef.nd, ef.ce, ef.ln, ef.sl, fun p hp => ?_⟩⟩
  rcases List.mem_append.mp hp with hp | hp
  · have : ∀ (ds : List D) (xs : List V), RpL K F ds xs → ∀ p ∈ xs.zip (ds.map W.val), WOk K B F p.1 p.2 := by
      intro ds
      induction ds with
      | nil => intro xs h p hp; rw [show xs = [] from h] at hp; simp at hp
      | cons d ds ih =>
        intro xs h p hp
        obtain ⟨x, ys, rfl, h1, h2⟩ := h
        rcases List.mem_cons.mp hp with rfl | hp
        · exact h1
        · exact ih ys h2 p hp
    exact this ds xs r1 p hp
  · exact ef.tm p hp
theorem at_t2 {d1 d2 : D} {i j : Nat} : AsT K (gTup K 2 (gCons (gName i) (gCons (gName j) gNil))) (.val (.tup [d1, d2])) ro ((ro.set i (some (.val d1))).set j (some (.val d2))) := at_tup rfl (al_cons at_n (al_cons at_n al_nil))
theorem g_asgT (h : EvD K te ro ka w k1) (a : AsT K g w ro ro') (k : Gp K B F0 ta De.nx ro' k1) : Gp K B F0 ta (tAsg te g De) ro ka := fun sg H e => h B F0 ta sg H _ e fun v H1 e1 => a B F0 k1 _ sg H1 v _ e1 List.mem_cons_self fun sg' e' => k _ _ e'.pop
theorem q_asgT (h : EvD K te ro ka w k1) (a : AsT K g w ro ro') (k : Gp K B F0 ta (u De) ro' k1) : Gp K B F0 ta (tSeq (tAsg te g) u De) ro ka := g_asgT (De := { De with nx := u De }) h a k
/-- a loop whose target is of any form -/
theorem g_forT {wi : TI} {C : Cells → Prop} {tb : TS} (h : EvI K wi ro ka ws C k1) (Inv : Nat → Ro → Cells → Prop) (h0 : Inv 0 ro k1) (hC : ∀ i ro2 ka2, Inv i ro2 ka2 → C ka2)
    (hs : ∀ i w ro2 ka2 ta', ws[i]? = some w → Inv i ro2 ka2 → ∃ ro3, AsT K g w ro2 ro3 ∧ Gp K B F0 ta' (tb { De with nx := Jp K B F0 ta' (Inv (i + 1)), ct := Jp K B F0 ta' (Inv (i + 1)), bk := De.nx }) ro3 ka2)
    (hd : ∀ ro2 ka2 ta', Inv ws.length ro2 ka2 → (∀ p ∈ ta, p ∈ ta') → Gp K B F0 ta' De.nx ro2 ka2) : Gp K B F0 ta (tFor wi g tb De) ro ka :=
  g_for h Inv h0 hC (fun i w ro2 ka2 hw inv ta' sg H e x ex => by
    obtain ⟨ro3, a, gp⟩ := hs i w ro2 ka2 ta' hw inv
    exact a B F0 ka2 _ sg H x _ ex List.mem_cons_self fun sg' e' => gp _ _ e'.pop) hd
theorem q_forT {wi : TI} {C : Cells → Prop} {tb : TS} (h : EvI K wi ro ka ws C k1) (Inv : Nat → Ro → Cells → Prop) (h0 : Inv 0 ro k1) (hC : ∀ i ro2 ka2, Inv i ro2 ka2 → C ka2)
    (hs : ∀ i w ro2 ka2 ta', ws[i]? = some w → Inv i ro2 ka2 → ∃ ro3, AsT K g w ro2 ro3 ∧ Gp K B F0 ta' (tb { De with nx := Jp K B F0 ta' (Inv (i + 1)), ct := Jp K B F0 ta' (Inv (i + 1)), bk := u De }) ro3 ka2)
    (hd : ∀ ro2 ka2 ta', Inv ws.length ro2 ka2 → (∀ p ∈ ta, p ∈ ta') → Gp K B F0 ta' (u De) ro2 ka2) : Gp K B F0 ta (tSeq (tFor wi g tb) u De) ro ka := g_forT (De := { De with nx := u De }) h Inv h0 hC hs hd
end
end DL

/-! ER: a tuple read backwards (own work). -/
namespace DL
open PySem L2 PySem.W PyProof.Rows

section
variable {prog : Program} {w : World} {A : Around} {E : Value → Shared → Prop} {s : Shared}
/-- what a slice object holds -/
theorem slc_flds {j : Addr} {a b c : Value} {R : Value × Value × Value → Shared → Prop} (hj : s.heap.IsSliceOf j a b c) (k : R (a, b, c) s) : wpAny (model prog w) A (Builtin.Slice.sliceFields (.ref j)) R E s := by
  rcases hj with ⟨ob, hob, -, hdt⟩
  have one : ∀ (i : Nat) (x : Value) {S : Value → Shared → Prop}, #[a, b, c][i]? = some x → S x s → wpAny (model prog w) A (field (.ref j) i) S E s := fun i x S hx kx => wpAny_field hob hdt hx kx
  exact wpAny_bind (one 0 a rfl (wpAny_bind (one 1 b rfl (wpAny_bind (one 2 c rfl (wpAny_pure k))))))
theorem places_back (n : Nat) : Builtin.Slice.slicePlaces ((n : Int) - 1) (-1) (-1) = n := by
  rcases Nat.eq_zero_or_pos n with rfl | hp
  · rfl
  · have hlt : (-1 : Int) < (n : Int) - 1 := by omega
    simp only [Builtin.Slice.slicePlaces, show ¬ ((-1 : Int) > 0) by decide, if_false, gt_iff_lt, hlt, if_true, Int.neg_neg, Int.ediv_one]
    omega
/-- no ends, step -1: from the last place to the first -/
theorem slc_back {j : Addr} {a b c : Value} {n : Nat} {R : Int × Int × Nat → Shared → Prop} (hj : s.heap.IsSliceOf j a b c) (ha : IsPart a none) (hb : IsPart b none) (hc : IsPart c (some (-1))) (k : R ((n : Int) - 1, -1, n) s) :
    wpAny (model prog w) A (Builtin.Slice.sliceApplied (.ref j) (pure (n : Int))) R E s := by
  have last : wpAny (model prog w) A (pure ((n : Int) - 1, (-1 : Int), Builtin.Slice.slicePlaces ((n : Int) - 1) (-1) (-1))) R E s := wpAny_pure ((places_back n).symm ▸ k)
  have adj : Builtin.Slice.sliceAdjust none none (-1) (n : Int) = ((n : Int) - 1, -1) := rfl
  exact wpAny_bind (slc_flds hj (wpAny_bind (HT.slicePart_ hc (wpAny_bind (HT.slicePart_ ha (wpAny_bind (HT.slicePart_ hb (wpAny_bind (wpAny_pure last)))))))))
theorem picked_all {α : Type} {g : Nat → Option α} (ys : List α) (h : ∀ m (hm : m < ys.length), g m = some ys[m]) : (List.range ys.length).filterMap g = ys := by
  induction ys generalizing g with
  | nil => rfl
  | cons y r ih =>
    rw [List.length_cons, List.range_succ_eq_map, List.filterMap_cons, h 0 (Nat.succ_pos _), List.filterMap_map]
    exact congrArg (y :: ·) (ih fun m hm => h (m + 1) (Nat.succ_lt_succ hm))
/-- t[::-1] of a tuple object -/
theorem tup_back {t j : Addr} {its : List Value} {a b c : Value} {R : Value → Shared → Prop} (ht : IsTup s.heap t its.toArray) (hz : its.length ≤ sizeLine) (hj : s.heap.IsSliceOf j a b c) (ha : IsPart a none) (hb : IsPart b none) (hc : IsPart c (some (-1)))
    (k : R (.ref s.heap.objs.size) { s with heap := s.heap.push { cls := .type "tuple", data := .seq its.reverse.toArray } }) : wpAny (model prog w) A (getItem (.ref t) (.ref j)) R E s := by
  have hJ : s.TypeIs (.ref j) "slice" := hj.elim fun ob q => ⟨ob, q.1, q.2.1⟩
  have pick : (List.range its.toArray.size).filterMap (fun m : Nat => its.toArray[((its.toArray.size : Int) - 1 + (m : Int) * -1).toNat]?) = its.reverse := by
    have hl : its.toArray.size = its.reverse.length := by rw [List.size_toArray, List.length_reverse]
    rw [hl]
    refine picked_all _ fun m hm => ?_
    have hm' : m < its.length := by rw [List.length_reverse] at hm; exact hm
    rw [List.length_reverse, List.getElem?_toArray, show ((its.length : Int) - 1 + (m : Int) * -1).toNat = its.length - 1 - m by omega, List.getElem?_eq_getElem (by omega), List.getElem_reverse]
  refine wpAny_getItem_slot ht.typeIs (by decide) slot_tuple_getitem (wpAny_call_entry slot_tuple_getitem ht.typeIs entry_tuple_getitem ?_ (args_tuple_getitem _ _))
  refine wpAny_bind (m := Builtin.Tuple.tupleItemsOf (.ref t)) (tupleItemsOf_ ht (wpAny_bind (wpAny_typeOf hJ ?_)))
  rw [if_pos (show (Value.type "slice" == Value.type "slice") = true by decide)]
  refine wpAny_bind (slc_back hj ha hb hc ?_)
  have no : ((its.toArray.size : Int) - 1 == 0 && (-1 : Int) == 1 && its.toArray.size == its.toArray.size) = false := by simp
  simp only [no, Bool.false_eq_true, if_false, pick]
  have new : sizeOk (.seq its.reverse.toArray) := by show its.reverse.toArray.size ≤ sizeLine; rwa [List.size_toArray, List.length_reverse]
  refine wpAny_bind (m := Builtin.Tuple.tupleExact _) ?_
  refine wpAny_mono (Q := fun v s' => v = .ref s.heap.objs.size ∧ s' = { s with heap := s.heap.push { cls := .type "tuple", data := .seq its.reverse.toArray } }) (wpAny_newObj_type ⟨rfl, rfl⟩ new) (fun v s' q => ?_) fun _ _ x => x
  rw [q.1, q.2]
  exact wpAny_pure ⟨_, rfl, k⟩
end
section
variable {X : Cx} {e : Expr} {te : TE} {n : Nat} {pa pb pc pd : Pos}
def tBackT (K : PySem.W.Frag) (te : TE) : TE := fun σ H Q => te σ H fun x H1 => ∃ a xs, x = .ref a ∧ SqT K H1 a xs ∧ ∀ p, H1 p = none → Q (.ref p) (upd H1 p (.tup xs.reverse))
/-- e[::-1], e a tuple -/
theorem pe_backT (he : PE X e te) : PE X (.Subscript e (.Slice none none (some (.UnaryOp .USub (.Constant (.int 1) n pa) pb)) pc) pd) (tBackT X.K te) where
  run pins s σ H Q I h := by
    have step : PO X (some (.UnaryOp .USub (.Constant (.int 1) n pa) pb)) (tPart (tUn (rU fun i => .int (-i)) (tC (.int 1)))) := po_some (pe_un un_neg pe_int)
    apply Subscript_
    apply thn (he.run pins s σ H _ I h)
    rintro v s1 ⟨x, H1, I1, rx, a, xs, rfl, sx, q⟩
    cases rx
    apply wpAny_Slice
    rw [evalPart_none]
    refine wpAny_pure (wpAny_pure ?_)
    refine thn (step.run pins s1 σ H1 (fun o H2 => o = some (-1) ∧ H2 = H1) I1 ⟨1, rfl, -1, rfl, rfl, rfl⟩) ?_
    rintro vs s2 ⟨o, H2, I2, part, rfl, rfl⟩
    have J : Inv X pins σ H2 { s2 with heap := s2.heap.push { cls := .type "slice", data := .fields #[.none, .none, vs] } } := I2.kept (t' := s2.toks) fun _ _ k => Heap.get?_push_of_some _ k
    obtain ⟨its, vals, tup, sz⟩ := J.tuple sx
    have len := vals.length
    refine tail_any (ops := [.ref a, .ref s2.heap.objs.size]) tup.typeIs slot_tuple_getitem.lookup (tup_back tup (by omega) (Heap.IsSliceOf.new _ .none .none vs) .none .none part ?_) (by with_unfolding_all rfl)
    have room : xs.reverse.length ≤ sizeLine := by rwa [List.length_reverse]
    exact ⟨.ref _, _, J.laid (t' := s2.toks) (o := .tup xs.reverse) (fun _ _ k => Heap.get?_push_of_some _ k) (Nat.le_refl _) ⟨room, _, vals.reverse, IsTup.new _ _⟩, rfl, q _ (J.hok.fresh (Nat.le_refl _))⟩
end
theorem ev_backT {K : PySem.W.Frag} {te : TE} {ro : Ro} {ka k1 : Cells} {ds : List D} (ha : EvD K te ro ka (.val (.tup ds)) k1) : EvD K (tBackT K te) ro ka (.val (.tup ds.reverse)) k1 := by
  intro B F0 ta sg H Q en q
  refine ha B F0 ta sg H _ en ?_
  rintro u H1 ⟨F, g, en1⟩
  have tm := en1.tm _ List.mem_cons_self
  obtain ⟨a, xs, rfl, hsq, hrp⟩ := Lk.vt.get en1 tm
  refine ⟨a, xs, rfl, hsq, fun p hp => ?_⟩
  have nw := en1.lay (o := .tup xs.reverse) hp rfl
  have kept := nw.1.held (ta' := ta) fun c hc => List.mem_cons_of_mem _ hc
  exact q _ _ ⟨_, g.trans nw.2, kept.push ⟨p, _, rfl, .inl (.inl upd_same), RpL.mono nw.2.sub.exz en1.nz _ _ (rpl_rev hrp)⟩⟩
end DL

/-! EA: dicts read and written, walked while frozen, objects frozen (own work). -/
namespace DL
open PySem L2 PySem.W

/-- w is a dict of ds; b: viewed -/
inductive Dk (ka : Cells) : W → List (Key × D) → Bool → Prop where
  | v {ds : List (Key × D)} : Dk ka (.val (.dic ds)) ds false
  | w {ds : List (Key × D)} : Dk ka (.vw (.dic ds)) ds true
  | ce {a : Addr} {ds : List (Key × D)} (j : Nat) (h : ka[j]? = some (a, .dic ds)) : Dk ka (.val (.adr a)) ds false
  | cl {a : Addr} {o : Obj} {xs : List (Key × V)} {ds : List (Key × D)} (j : Nat) (h : ka[j]? = some (a, .ldic o xs ds)) : Dk ka (.val (.adr a)) ds false
section
variable {K : PySem.W.Frag} {B B' F F' F0 : Hp} {ro ro' : Ro} {ka k1 k2 k3 kr : Cells} {ta : List (V × W)} {sg sg' : L2.St} {H H' : Hp} {te tf tg td ty tk tv : TE} {tr : TA} {tt tu : TT} {w x y z : W} {n m : Nd} {C dx a : Addr} {b : Bool} {P : L2.St → Hp → Prop} {De : Ends} {t u : TS} {E : XK} {ds : List (Key × D)}
theorem Dk.get {v : V} (l : Dk ka w ds b) (e : EnF K B F ro ka ta sg H) (h : WOk K B F v w) : ∃ a xs, v = .ref a ∧ Rd H a (.dK xs) ∧ RpK K (if b then uni B F else F) ds xs := by
  cases l with
  | v =>
    obtain ⟨a, xs, rfl, h1, h2⟩ := h
    exact ⟨a, xs, rfl, e.fz.rd e.nz h1, h2⟩
  | w =>
    obtain ⟨a, xs, rfl, h1, h2⟩ := h
    exact ⟨a, xs, rfl, (uni_exz e.fz e.fr).rd (uni_nz e.nz) h1, h2⟩
  | ce j hj =>
    obtain rfl : v = .ref _ := h
    obtain ⟨_, _, xs, h1, h2⟩ := e.ce _ (List.mem_of_getElem? hj)
    exact ⟨_, xs, rfl, .inl h1, h2⟩
  | cl j hj =>
    obtain rfl : v = .ref _ := h
    obtain ⟨_, _, h1, h2⟩ := e.ce _ (List.mem_of_getElem? hj)
    exact ⟨_, _, rfl, .inr ⟨_, h1⟩, h2⟩
theorem En.dk {v : V} (l : Dk ka w ds b) (e : En K B F0 ro ka ta sg H) (h : (v, w) ∈ ta) : ∃ F a xs, Gr B F0 F ∧ EnF K B F ro ka ta sg H ∧ v = .ref a ∧ Rd H a (.dK xs) ∧ RpK K (if b then uni B F else F) ds xs := by
  obtain ⟨F, g, ef⟩ := e
  obtain ⟨a, xs, h1, h2, h3⟩ := l.get ef (ef.tm _ h)
  exact ⟨F, a, xs, g, ef, h1, h2, h3⟩
theorem getV {xs : List (Key × V)} {k : Key} : valV xs k = getT xs k := rfl
/-- d[text] -/
theorem ev_dget {s : Str} {d : D} (h : EvD K td ro ka w k1) (h2 : EvD K ty ro k1 (.val (.str s)) k2) (l : Dk k2 w ds b) (hd : getT ds (.inr s) = some d) : EvD K (tDGet td ty) ro ka (part b d) k2 := fun B F0 ta sg H Q e q =>
  h B F0 ta sg H _ e fun u H1 e1 => h2 B F0 _ sg H1 _ e1 fun v H2 e2 => by
    have hv := e2.tm_str (v := v) (i := s) List.mem_cons_self
    subst hv
    obtain ⟨F, a, xs, g, ef, rfl, h3, h4⟩ := e2.dk l (List.mem_cons_of_mem _ List.mem_cons_self)
    obtain ⟨x, hx, rx⟩ := ((rpk_pt.mp h4).get (.inr s)).2 d hd
    refine ⟨a, x, rfl, .inl ⟨xs, .inr s, h3, rfl, ?_⟩, q _ _ ⟨F, g, ?_⟩⟩
    · rw [getV, hx]
    · exact (ef.held (ta' := ta) fun p hp => List.mem_cons_of_mem _ (List.mem_cons_of_mem _ hp)).push (wok_part b rx)
theorem ev_dgetV {s : Str} {d : D} (h : EvD K td ro ka w k1) (h2 : EvD K ty ro k1 (.val (.str s)) k2) (l : Dk k2 w ds false) (hd : getT ds (.inr s) = some d) : EvD K (tDGet td ty) ro ka (.val d) k2 := ev_dget h h2 l hd
/-- text in d -/
theorem ev_din {s : Str} (h : EvD K ty ro ka (.val (.str s)) k1) (h2 : EvD K td ro k1 w k2) (l : Dk k2 w ds b) : EvD K (tDIn ty td) ro ka (.val (.bl (getT ds (.inr s)).isSome)) k2 := fun B F0 ta sg H Q e q =>
  h B F0 ta sg H _ e fun u H1 e1 => h2 B F0 _ sg H1 _ e1 fun v H2 e2 => by
    have hv := e2.tm_str (v := u) (i := s) (List.mem_cons_of_mem _ List.mem_cons_self)
    subst hv
    obtain ⟨F, a, xs, g, ef, rfl, h3, h4⟩ := e2.dk l List.mem_cons_self
    have hg := (rpk_pt.mp h4).get (.inr s)
    refine ⟨a, getT xs (.inr s), rfl, .inl ⟨xs, .inr s, h3, rfl, rfl⟩, q _ _ ?_⟩
    have e5 := (e2.held (ta' := ta) fun p hp => List.mem_cons_of_mem _ (List.mem_cons_of_mem _ hp)).push_imm (v := .bl (getT xs (.inr s)).isSome) (w := .val (.bl (getT xs (.inr s)).isSome)) fun _ => rfl
    cases hd : getT ds (.inr s) with
    | none => rw [hg.1 hd] at e5 ⊢; exact e5
    | some d =>
      obtain ⟨x, hx, _⟩ := hg.2 d hd
      rw [hx] at e5 ⊢
      exact e5
theorem ev_dni {s : Str} (h : EvD K ty ro ka (.val (.str s)) k1) (h2 : EvD K td ro k1 w k2) (l : Dk k2 w ds b) : EvD K (tDNotIn ty td) ro ka (.val (.bl (!(getT ds (.inr s)).isSome))) k2 := fun B F0 ta sg H Q e q =>
  h B F0 ta sg H _ e fun u H1 e1 => h2 B F0 _ sg H1 _ e1 fun v H2 e2 => by
    have hv := e2.tm_str (v := u) (i := s) (List.mem_cons_of_mem _ List.mem_cons_self)
    subst hv
    obtain ⟨F, a, xs, g, ef, rfl, h3, h4⟩ := e2.dk l List.mem_cons_self
    have hg := (rpk_pt.mp h4).get (.inr s)
    refine ⟨a, getT xs (.inr s), rfl, .inl ⟨xs, .inr s, h3, rfl, rfl⟩, q _ _ ?_⟩
    have e5 := (e2.held (ta' := ta) fun p hp => List.mem_cons_of_mem _ (List.mem_cons_of_mem _ hp)).push_imm (v := .bl (!(getT xs (.inr s)).isSome)) (w := .val (.bl (!(getT xs (.inr s)).isSome))) fun _ => rfl
    cases hd : getT ds (.inr s) with
    | none => rw [hg.1 hd] at e5 ⊢; exact e5
    | some d =>
      obtain ⟨x, hx, _⟩ := hg.2 d hd
      rw [hx] at e5 ⊢
      exact e5
/-- d[text] = v -/
theorem g_dput {s : Str} {d : D} {j : Nat} (hv : EvD K tv ro ka (.val d) k1) (ho : EvD K td ro k1 (.val (.adr a)) k2) (hi : EvD K ty ro k2 (.val (.str s)) k3) (hj : k3[j]? = some (a, .dic ds)) (hz : ds.length < 100000)
    (k : Gp K B F0 ta De.nx ro (k3.set j (a, .dic (putT ds (.inr s) d)))) : Gp K B F0 ta (sDPut td ty tv De) ro ka := fun sg H e =>
  hv B F0 ta sg H _ e fun v H1 e1 => ho B F0 _ sg H1 _ e1 fun u H2 e2 => hi B F0 _ sg H2 _ e2 fun y H3 e3 => by
    have hy := e3.tm_str (v := y) (i := s) List.mem_cons_self
    have hu := e3.tm_adr (v := u) (a := a) (List.mem_cons_of_mem _ List.mem_cons_self)
    subst hy hu
    obtain ⟨F, g, ef, xs, hx, rx⟩ := e3.cellAt hj
    have hvd := ef.tm (v, .val d) (List.mem_cons_of_mem _ (List.mem_cons_of_mem _ List.mem_cons_self))
    refine ⟨a, _, rfl, .inl ⟨xs, .inr s, hx, rfl, ?_, rfl⟩, k _ _ ⟨F, g, ?_⟩⟩
    · rw [(rpk_pt.mp rx).len]
      exact Nat.lt_of_lt_of_le hz (by decide : 100000 ≤ sizeLine)
    · exact (ef.write (o := .dK (putK xs (.inr s) v)) (n' := .dic (putT ds (.inr s) d)) hj ⟨_, upd_same, rpk_pt.mpr ((rpk_pt.mp rx).put (.inr s) hvd)⟩).held fun p hp => List.mem_cons_of_mem _ (List.mem_cons_of_mem _ (List.mem_cons_of_mem _ hp))
theorem q_dput {s : Str} {d : D} {j : Nat} (hv : EvD K tv ro ka (.val d) k1) (ho : EvD K td ro k1 (.val (.adr a)) k2) (hi : EvD K ty ro k2 (.val (.str s)) k3) (hj : k3[j]? = some (a, .dic ds)) (hz : ds.length < 100000)
    (k : Gp K B F0 ta (u De) ro (k3.set j (a, .dic (putT ds (.inr s) d)))) : Gp K B F0 ta (tSeq (sDPut td ty tv) u De) ro ka := g_dput (De := { De with nx := u De }) hv ho hi hj hz k
/-- {} -/
theorem evn_dnew : EvN K tDNewK ro ka (.dic []) ka := fun B F0 ta sg H Q e q => fun p hp => by
  obtain ⟨F, g, e⟩ := e
  exact q p _ ⟨F, g, e.cell (o := .dK []) hp (n := .dic []) ⟨[], upd_same, rfl⟩⟩
/-- {text: v} -/
theorem evn_disp1 {s : Str} {d : D} (hk : EvD K tk ro ka (.val (.str s)) k1) (hv : EvD K tv ro k1 (.val d) k2) : EvN K (tDisp [(tk, tv)]) ro ka (.dic [(.inr s, d)]) k2 := fun B F0 ta sg H Q e q => fun p hp => by
  obtain ⟨F, g, e⟩ := e
  have e1 : En K B F0 ro (ka ++ [(p, .dic [])]) ta sg (upd H p (.dK [])) := ⟨F, g, e.cell (o := .dK []) hp (n := .dic []) ⟨[], upd_same, rfl⟩⟩
  refine hk.fr [(p, .dic [])] B F0 ta sg _ _ e1 fun x H1 e2 => ?_
  have hx := e2.tm_str (v := x) (i := s) List.mem_cons_self
  subst hx
  refine hv.fr [(p, .dic [])] B F0 _ sg _ _ e2 fun y H2 e3 => ?_
  have hj : (k2 ++ [(p, Nd.dic [])])[k2.length]? = some (p, Nd.dic []) := by simp
  obtain ⟨F2, g2, ef, xs, hx2, rx⟩ := e3.cellAt hj
  obtain rfl : xs = [] := rx
  have hvd := ef.tm (y, .val d) List.mem_cons_self
  refine ⟨hx2, [(.inr s, y)], rfl, (by show 1 ≤ 15; decide), q p _ ⟨F2, g2, ?_⟩⟩
  have e4 := ef.write (o := .dK [(.inr s, y)]) (n' := .dic [(.inr s, d)]) hj ⟨_, upd_same, ⟨y, [], rfl, hvd, rfl⟩⟩
  rw [List.set_append_right _ _ (Nat.le_refl _), Nat.sub_self] at e4
  exact e4.held fun p hp => List.mem_cons_of_mem _ (List.mem_cons_of_mem _ hp)

/-! ### a frozen dict is walked -/
/-- what stands at a path of fields stays the same while things are locked -/
def EvP (K : PySem.W.Frag) (te : TE) (ro : Ro) (w : W) : Prop := ∀ B F ka ta sg H, EnF K B F ro ka ta sg H → ∃ v, WOk K B F v w ∧ ∀ H' (Q : VK), (∀ a u, H a = some u → lk u = false → H' a = some u) → Q v H' → te sg H' Q
theorem evp_var {i : Nat} (h : ro[i]? = some (some w)) : EvP K (tVar i) ro w := fun B F ka ta sg H e => by
  obtain ⟨v, h1, h2⟩ := e.sl i w h
  exact ⟨v, h2, fun H' Q _ q => ⟨v, h1, q⟩⟩
theorem evp_fld {f : Str} {d : D} {fs : List (Str × D)} (h : EvP K te ro (.val (.ins C fs))) (c : Cls K C) (nf : NoAttr K C f) (hd : fs.lookup f = some d) : EvP K (tFld K te f) ro (.val d) := fun B F ka ta sg H e => by
  obtain ⟨v, h1, h2⟩ := h B F ka ta sg H e
  obtain ⟨a, dx, xs, rfl, h3, h4⟩ := h1
  obtain ⟨x, hx, rx⟩ := rpf_lookup h4 hd
  have h5 := rd_ins e.nz e.fz h3
  exact ⟨x, rx, fun H' Q hH q => h2 H' _ hH ⟨a, C, dx, xs, x, rfl, hH a _ h5 rfl, c, nf, hx, q⟩⟩
theorem uni_upd {o : Obj} {u : HO} (hl : lk u = true) (h : F a = some u ∨ B a = some u) : uni (upd B a (.frz o u)) F = uni B F := by
  funext c
  unfold uni
  cases q : F c with
  | some x => rfl
  | none =>
    by_cases hc : c = a
    · subst hc
      rw [upd_same]
      rcases h with h | h
      · rw [h] at q; cases q
      · rw [h]
        simp only [hl, if_true]
        cases u <;> first | rfl | cases hl
    · rw [upd_ne hc]
/-- a frozen thing is locked for a while -/
theorem EnF.lockF {o : Obj} {u : HO} (e : EnF K B F ro ka ta sg H) (hF : F a = some u) (hl : lk u = true) (hH : H a = some u ∨ H a = some (.frz o u)) : EnF K (upd B a (.frz o u)) F ro ka ta sg (upd H a (.frz o u)) := by
  have wk : ∀ {v : V} {w : W}, WOk K B F v w → WOk K (upd B a (.frz o u)) F v w := fun {v w} h => by
    cases w with
    | val d => exact h
    | vw d =>
      show Rp K (uni (upd B a (.frz o u)) F) d v
      rw [uni_upd hl (.inl hF)]
      exact h
  refine ⟨e.nz, fun c x h => ?_, fun c x h => ?_, e.nd, fun p hp => ?_, e.ln, fun i w h => ?_, fun p hp => wk (e.tm p hp)⟩
  · by_cases hc : c = a
    · subst hc
      rw [hF] at h
      cases h
      exact .inr ⟨hl, o, upd_same⟩
    · rcases e.fz c x h with q | ⟨q1, q2, q3⟩
      · exact .inl (by rw [upd_ne hc]; exact q)
      · exact .inr ⟨q1, q2, by rw [upd_ne hc]; exact q3⟩
  · by_cases hc : c = a
    · subst hc; rw [upd_same] at h ⊢; exact h
    · rw [upd_ne hc] at h ⊢; exact e.fr c x h
  · obtain ⟨h1, h2, h3⟩ := e.ce p hp
    have hc : p.1 ≠ a := fun z => by rw [z, hF] at h1; cases h1
    exact ⟨h1, by rw [upd_ne hc]; exact h2, ndok_at (upd_ne hc) h3⟩
  · obtain ⟨v, h1, h2⟩ := e.sl i w h
    exact ⟨v, h1, wk h2⟩
/-- .. and back: B stands as before -/
theorem EnF.unlockF {o : Obj} {u : HO} (e : EnF K (upd B a (.frz o u)) F ro ka ta sg H) (hF : F a = some u) (hl : lk u = true) {x : HO} (hx : x = u ∨ x = .frz o u) (hB : ∀ y, B a = some y → y = x) : EnF K B F ro ka ta sg (upd H a x) := by
  have wk : ∀ {v : V} {w : W}, WOk K (upd B a (.frz o u)) F v w → WOk K B F v w := fun {v w} h => by
    cases w with
    | val d => exact h
    | vw d =>
      have h' : Rp K (uni (upd B a (.frz o u)) F) d v := h
      rw [uni_upd hl (.inl hF)] at h'
      exact h'
  refine ⟨e.nz, fun c y h => ?_, fun c y h => ?_, e.nd, fun p hp => ?_, e.ln, fun i w h => ?_, fun p hp => wk (e.tm p hp)⟩
  · by_cases hc : c = a
    · subst hc
      rw [hF] at h
      cases h
      rcases hx with rfl | rfl
      · exact .inl upd_same
      · exact .inr ⟨hl, o, upd_same⟩
    · rcases e.fz c y h with q | ⟨q1, q2, q3⟩
      · exact .inl (by rw [upd_ne hc]; exact q)
      · exact .inr ⟨q1, q2, by rw [upd_ne hc]; exact q3⟩
  · by_cases hc : c = a
    · subst hc; rw [upd_same, hB y h]
    · rw [upd_ne hc]; exact e.fr c y (by rw [upd_ne hc]; exact h)
  · obtain ⟨h1, h2, h3⟩ := e.ce p hp
    have hc : p.1 ≠ a := fun z => by rw [z, hF] at h1; cases h1
    rw [upd_ne hc] at h2
    exact ⟨h1, h2, ndok_at (upd_ne hc) h3⟩
  · obtain ⟨v, h1, h2⟩ := e.sl i w h
    exact ⟨v, h1, wk h2⟩
end
end DL

/-! EB: loops and comprehensions over frozen dicts (own work). -/
namespace DL
open PySem L2 PySem.W
def tLkS (t : TS) : TS := fun D σ H => t D σ H ∨ tLock t D σ H
def tLkE (t : TE) : TE := fun σ H Q => t σ H Q ∨ tLockE t σ H Q
theorem ps_lkS {X : Cx} {st : Stmt} {t : TS} (h : PS X st t) : PS X st (tLkS t) := ⟨fun pins s σ H D I q => q.elim (h.run pins s σ H D I) ((ps_lock h).run pins s σ H D I)⟩
theorem pe_lkE {X : Cx} {e : Expr} {t : TE} (h : PE X e t) : PE X e (tLkE t) := ⟨fun pins s σ H Q I q => q.elim (h.run pins s σ H Q I) ((pe_lock h).run pins s σ H Q I)⟩
/-- what is walked, at one state -/
def EvIat (K : PySem.W.Frag) (B F0 : Hp) (wi : TI) (ro : Ro) (ws : List W) (C : Cells → Prop) (ka' : Cells) (ta : List (V × W)) (sg : L2.St) (H : Hp) : Prop := ∀ (R : It → Hp → Prop),
  (∀ J ta' H', (∀ p ∈ ta, p ∈ ta') → En K B F0 ro ka' ta' sg H' →
    (∀ i w ro2 ka2 ta2 sg2 H2, ws[i]? = some w → C ka2 → (∀ p ∈ ta', p ∈ ta2) → En K B F0 ro2 ka2 ta2 sg2 H2 → J.go i H2 ∧ ∀ x H3, J.yld i H2 x H3 → En K B F0 ro2 ka2 ((x, w) :: ta2) sg2 H3) →
    (∀ i ro2 ka2 ta2 sg2 H2, ws.length ≤ i → C ka2 → (∀ p ∈ ta', p ∈ ta2) → En K B F0 ro2 ka2 ta2 sg2 H2 → J.stop i H2) → R J H') → wi sg H R
section
variable {K : PySem.W.Frag} {B F F0 : Hp} {ro : Ro} {ka k1 k2 k3 kr : Cells} {ta : List (V × W)} {sg : L2.St} {H H' : Hp} {te tf tg tk tv : TE} {tr : TA} {tt tu : TT} {w x y z : W} {n m : Nd} {C dx a : Addr} {b : Bool} {P : L2.St → Hp → Prop} {De : Ends} {t u : TS} {E : XK}
theorem lc_at {wi : TI} {ws : List W} {C : Cells → Prop} {j : Nat} {vs : List Nat} {Q : VK} (e : En K B F0 ro ka ta sg H) (h : EvIat K B F0 wi ro ws C k1 ta sg H) (hj : j ∈ vs) (hn : ws.length ≤ 1000000) (Inv : Nat → List D → Cells → Prop) (h0 : Inv 0 [] k1) (hC : ∀ i acc k, Inv i acc k → C k ∧ ∀ x, C (k ++ [x]))
    (hs : ∀ i w acc k, ws[i]? = some w → Inv i acc k → (∃ k2, EvT K tt ((wipeR ro vs).set j (some w)) k false k2 ∧ Inv (i + 1) acc k2) ∨ ∃ k2 k3 d, EvT K tt ((wipeR ro vs).set j (some w)) k true k2 ∧ EvD K te ((wipeR ro vs).set j (some w)) k2 (.val d) k3 ∧ Inv (i + 1) (acc ++ [d]) k3)
    (q : ∀ n k a H', (∃ acc, n = .lst acc ∧ Inv ws.length acc k) → En K B F0 ro (k ++ [(a, n)]) ta sg H' → Q (.ref a) H') : tLc wi (gName j) tt te vs sg H Q :=
  h _ fun J ta' H1 hta e1 hgo hst => fun Dl hD => by
    -- the word: the list so far is the last cell
    let P : Nat → Hp → Prop := fun i H => ∃ acc k, Inv i acc k ∧ acc.length ≤ i ∧ En K B F0 ro (k ++ [(Dl, .lst acc)]) ta' sg H
    have p0 : P 0 (upd H1 Dl (.lst [])) := by
      obtain ⟨F, g, e1⟩ := e1
      exact ⟨[], k1, h0, Nat.le_refl _, F, g, e1.cell (o := .lst []) hD (n := .lst []) ⟨[], upd_same, rfl⟩⟩
    refine ⟨fun i m H => m = ws.length - i ∧ i ≤ ws.length ∧ P i H, ⟨ws.length, by simp, Nat.zero_le _, p0⟩, ?_⟩
    rintro i m H2 ⟨rfl, hi, acc, k, inv, hlen, e2⟩
    by_cases hlt : i < ws.length
    · have hw := List.getElem?_eq_getElem hlt
      obtain ⟨g1, g2⟩ := hgo i ws[i] ro (k ++ [(Dl, .lst acc)]) ta' sg H2 hw ((hC i acc k inv).2 _) (fun p hp => hp) e2
      refine .inr ⟨g1, P (i + 1), fun H' p => ⟨ws.length - (i + 1), by omega, rfl, hlt, p⟩, fun x H3 y => ?_⟩
      have e3 := g2 x H3 y
      refine ⟨wipe_set sg vs hj x, ?_⟩
      -- within the block
      have e4 : En K B F0 ((wipeR ro vs).set j (some ws[i])) (k ++ [(Dl, .lst acc)]) ta' ((wipe sg vs).set j (some x)) H3 := by
        obtain ⟨F, g, e3⟩ := e3
        exact ⟨F, g, ((wipe_en (vs := vs) e3).set (e3.tm _ List.mem_cons_self) j).held fun p hp => List.mem_cons_of_mem _ hp⟩
      -- and back out of it
      have out : ∀ {k : Cells} {ta2 : List (V × W)} {H : Hp}, (∃ F, Gr B F0 F ∧ EnF K B F ((wipeR ro vs).set j (some ws[i])) k ta2 ((wipe sg vs).set j (some x)) H ∧ ∀ (a : Nat) w, ro[a]? = some (some w) → ∃ v, sg[a]? = some (some v) ∧ WOk K B F v w) → En K B F0 ro k ta2 sg H := fun ⟨F, g, q, hs⟩ => ⟨F, g, q.frame (by obtain ⟨_, _, e0⟩ := e; exact e0.ln) hs⟩
      obtain ⟨F3, gF3, eF3⟩ := e3
      have slots : ∀ {F : Hp}, Gr B F3 F → ∀ (a : Nat) w, ro[a]? = some (some w) → ∃ v, sg[a]? = some (some v) ∧ WOk K B F v w := fun {F} g a w ha => by
        obtain ⟨v, h1, h2⟩ := eF3.sl a w ha
        exact ⟨v, h1, wok_gr eF3.nz g h2⟩
      have e4' : En K B F3 ((wipeR ro vs).set j (some ws[i])) (k ++ [(Dl, .lst acc)]) ta' ((wipe sg vs).set j (some x)) H3 :=
        ⟨F3, Gr.refl _ _, ((wipe_en (vs := vs) eF3).set (eF3.tm _ List.mem_cons_self) j).held fun p hp => List.mem_cons_of_mem _ hp⟩
      rcases hs i ws[i] acc k hw inv with ⟨k2, t1, inv2⟩ | ⟨k2, k3, d, t1, t2, inv2⟩
      · refine t1.fr [(Dl, .lst acc)] B F3 ta' _ H3 _ e4' fun H4 ⟨F4, g4, e5⟩ => ?_
        exact ⟨acc, k2, inv2, Nat.le_succ_of_le hlen, out ⟨F4, gF3.trans g4, e5, slots g4⟩⟩
      · refine t1.fr [(Dl, .lst acc)] B F3 ta' _ H3 _ e4' fun H4 e5 => ?_
        refine t2.fr [(Dl, .lst acc)] B F3 ta' _ H4 _ e5 fun v H5 ⟨F5, g5, e6⟩ => ?_
        have hx : (k3 ++ [(Dl, Nd.lst acc)])[k3.length]? = some (Dl, Nd.lst acc) := by simp
        obtain ⟨xs, h1, h2⟩ := e6.rd_lst hx
        have hv := e6.tm _ List.mem_cons_self
        have e7 := e6.write (o := .lst (xs ++ [v])) (n' := .lst (acc ++ [d])) hx ⟨_, upd_same, rpl_app h2 ⟨v, [], rfl, hv, rfl⟩⟩
        have hset : (k3 ++ [(Dl, Nd.lst acc)]).set k3.length (Dl, Nd.lst (acc ++ [d])) = k3 ++ [(Dl, Nd.lst (acc ++ [d]))] := by
          rw [List.set_append_right _ _ (Nat.le_refl _)]
          simp
        rw [hset] at e7
        refine ⟨xs, h1, by rw [rpl_len h2]; exact Nat.lt_of_le_of_lt (Nat.le_trans hlen (Nat.le_trans hi hn)) (by decide), acc ++ [d], k3, inv2, by rw [List.length_append]; exact Nat.succ_le_succ hlen, ?_⟩
        exact out ⟨F5, gF3.trans g5, e7.held fun p hp => List.mem_cons_of_mem _ hp, slots g5⟩
    · have ei : i = ws.length := by omega
      subst ei
      refine .inl ⟨hst _ ro (k ++ [(Dl, .lst acc)]) ta' sg H2 (Nat.le_refl _) ((hC _ acc k inv).2 _) (fun p hp => hp) e2, ?_⟩
      exact q _ _ Dl H2 ⟨acc, rfl, inv⟩ (e2.held hta)
theorem dc_at {wi : TI} {ws : List W} {C : Cells → Prop} {j : Nat} {vs : List Nat} {Q : VK} (e : En K B F0 ro ka ta sg H) (h : EvIat K B F0 wi ro ws C k1 ta sg H) (hj : j ∈ vs) (hn : ws.length ≤ 1000000) (Inv : Nat → List (Key × D) → Cells → Prop) (h0 : Inv 0 [] k1) (hC : ∀ i acc k, Inv i acc k → C k ∧ ∀ x, C (k ++ [x]))
    (hs : ∀ i w acc k, ws[i]? = some w → Inv i acc k → (∃ k2, EvT K tt ((wipeR ro vs).set j (some w)) k false k2 ∧ Inv (i + 1) acc k2) ∨ ∃ k2 k3 k4 c d, EvT K tt ((wipeR ro vs).set j (some w)) k true k2 ∧ EvD K tk ((wipeR ro vs).set j (some w)) k2 (.val (kD c)) k3 ∧ EvD K tv ((wipeR ro vs).set j (some w)) k3 (.val d) k4 ∧ Inv (i + 1) (putT acc c d) k4)
    (q : ∀ n k a H', (∃ acc, n = .dic acc ∧ Inv ws.length acc k) → En K B F0 ro (k ++ [(a, n)]) ta sg H' → Q (.ref a) H') : tDc wi (gName j) tt tk tv vs sg H Q :=
  h _ fun J ta' H1 hta e1 hgo hst => fun Dl hD => by
    let P : Nat → Hp → Prop := fun i H => ∃ acc k, Inv i acc k ∧ acc.length ≤ i ∧ En K B F0 ro (k ++ [(Dl, .dic acc)]) ta' sg H
    have p0 : P 0 (upd H1 Dl (.dK [])) := by
      obtain ⟨F, g, e1⟩ := e1
      exact ⟨[], k1, h0, Nat.le_refl _, F, g, e1.cell (o := .dK []) hD (n := .dic []) ⟨[], upd_same, rfl⟩⟩
    refine ⟨fun i m H => m = ws.length - i ∧ i ≤ ws.length ∧ P i H, ⟨ws.length, by simp, Nat.zero_le _, p0⟩, ?_⟩
    rintro i m H2 ⟨rfl, hi, acc, k, inv, hlen, e2⟩
    by_cases hlt : i < ws.length
    · have hw := List.getElem?_eq_getElem hlt
      obtain ⟨g1, g2⟩ := hgo i ws[i] ro (k ++ [(Dl, .dic acc)]) ta' sg H2 hw ((hC i acc k inv).2 _) (fun p hp => hp) e2
      refine .inr ⟨g1, P (i + 1), fun H' p => ⟨ws.length - (i + 1), by omega, rfl, hlt, p⟩, fun x H3 y => ?_⟩
      have e3 := g2 x H3 y
      refine ⟨wipe_set sg vs hj x, ?_⟩
      have out : ∀ {k : Cells} {ta2 : List (V × W)} {H : Hp}, (∃ F, Gr B F0 F ∧ EnF K B F ((wipeR ro vs).set j (some ws[i])) k ta2 ((wipe sg vs).set j (some x)) H ∧ ∀ (a : Nat) w, ro[a]? = some (some w) → ∃ v, sg[a]? = some (some v) ∧ WOk K B F v w) → En K B F0 ro k ta2 sg H := fun ⟨F, g, q, hs⟩ => ⟨F, g, q.frame (by obtain ⟨_, _, e0⟩ := e; exact e0.ln) hs⟩
      obtain ⟨F3, gF3, eF3⟩ := e3
      have slots : ∀ {F : Hp}, Gr B F3 F → ∀ (a : Nat) w, ro[a]? = some (some w) → ∃ v, sg[a]? = some (some v) ∧ WOk K B F v w := fun {F} g a w ha => by
        obtain ⟨v, h1, h2⟩ := eF3.sl a w ha
        exact ⟨v, h1, wok_gr eF3.nz g h2⟩
      have e4' : En K B F3 ((wipeR ro vs).set j (some ws[i])) (k ++ [(Dl, .dic acc)]) ta' ((wipe sg vs).set j (some x)) H3 :=
        ⟨F3, Gr.refl _ _, ((wipe_en (vs := vs) eF3).set (eF3.tm _ List.mem_cons_self) j).held fun p hp => List.mem_cons_of_mem _ hp⟩
      rcases hs i ws[i] acc k hw inv with ⟨k2, t1, inv2⟩ | ⟨k2, k3, k4, c, d, t1, t2, t3, inv2⟩
      · refine t1.fr [(Dl, .dic acc)] B F3 ta' _ H3 _ e4' fun H4 ⟨F4, g4, e5⟩ => ?_
        exact ⟨acc, k2, inv2, Nat.le_succ_of_le hlen, out ⟨F4, gF3.trans g4, e5, slots g4⟩⟩
      · refine t1.fr [(Dl, .dic acc)] B F3 ta' _ H3 _ e4' fun H4 e5 => ?_
        refine t2.fr [(Dl, .dic acc)] B F3 ta' _ H4 _ e5 fun u H5 e6 => ?_
        have hu := e6.tm_key (v := u) (k := c) List.mem_cons_self
        refine t3.fr [(Dl, .dic acc)] B F3 _ _ H5 _ e6 fun v H6 ⟨F5, g5, e7⟩ => ?_
        have hx : (k4 ++ [(Dl, Nd.dic acc)])[k4.length]? = some (Dl, Nd.dic acc) := by simp
        obtain ⟨xs, h1, h2⟩ := (e7.ce _ (List.mem_of_getElem? hx)).2.2
        have hv := e7.tm _ List.mem_cons_self
        have e8 := e7.write (o := .dK (putK xs c v)) (n' := .dic (putT acc c d)) hx ⟨_, upd_same, rpk_pt.mpr ((rpk_pt.mp h2).put c hv)⟩
        have hset : (k4 ++ [(Dl, Nd.dic acc)]).set k4.length (Dl, Nd.dic (putT acc c d)) = k4 ++ [(Dl, Nd.dic (putT acc c d))] := by
          rw [List.set_append_right _ _ (Nat.le_refl _)]
          simp
        rw [hset] at e8
        refine ⟨xs, c, hu, h1, by rw [(rpk_pt.mp h2).len]; exact Nat.lt_of_le_of_lt (Nat.le_trans hlen (Nat.le_trans hi hn)) (by decide), putT acc c d, k4, inv2, Nat.le_trans (putT_len _ _ _) (Nat.succ_le_succ hlen), ?_⟩
        exact out ⟨F5, gF3.trans g5, e8.held fun p hp => List.mem_cons_of_mem _ (List.mem_cons_of_mem _ hp), slots g5⟩
    · have ei : i = ws.length := by omega
      subst ei
      refine .inl ⟨hst _ ro (k ++ [(Dl, .dic acc)]) ta' sg H2 (Nat.le_refl _) ((hC _ acc k inv).2 _) (fun p hp => hp) e2, ?_⟩
      exact q _ _ Dl H2 ⟨acc, rfl, inv⟩ (e2.held hta)


theorem keys_of {ds : List (Key × D)} {xs : List (Key × V)} (h : RpK K F ds xs) : xs.map (·.1) = ds.map (·.1) := by
  induction ds generalizing xs with
  | nil => rw [show xs = [] from h]; rfl
  | cons p ds ih =>
    obtain ⟨k, d⟩ := p
    obtain ⟨x, ys, rfl, _, h2⟩ := h
    rw [List.map_cons, List.map_cons, ih h2]
/-- the keys of a locked dict, at one state -/
theorem ei_at {ds : List (Key × D)} {o : Obj} {xs : List (Key × V)} (e : En K B F0 ro ka ta sg H) (hB : B a = some (.frz o (.dK xs))) (hk : xs.map (·.1) = ds.map (·.1)) (hte : ∀ Q : VK, Q (.ref a) H → te sg H Q) :
    EvIat K B F0 (iKeys te) ro (ds.map fun kv => W.val (kD kv.1)) (fun _ => True) ka ta sg H := fun R q => hte _ ⟨a, o, rfl, .inl ⟨xs, (let ⟨_, _, ef⟩ := e; ef.fr _ _ hB), q _ ta H (fun p hp => hp) e (fun i w2 ro2 ka2 ta2 sg2 H2 hw _ _ e2 => by
    have hl : H2 a = some (.frz o (.dK xs)) := let ⟨_, _, ef⟩ := e2; ef.fr _ _ hB
    rw [List.getElem?_map] at hw
    obtain ⟨p, hp, rfl⟩ := Option.map_eq_some_iff.mp hw
    have h1 : (xs.map (·.1))[i]? = some p.1 := by rw [hk, List.getElem?_map, hp]; rfl
    rw [List.getElem?_map] at h1
    obtain ⟨y, hy, hy2⟩ := Option.map_eq_some_iff.mp h1
    refine ⟨⟨hl, (List.getElem?_eq_some_iff.mp hy).1⟩, fun x H3 ⟨e3, k, v, h2, h3⟩ => ?_⟩
    subst e3 h3
    rw [hy] at h2
    cases h2
    obtain ⟨pk, pd⟩ := p
    cases hy2
    exact e2.push_imm fun F => by cases k <;> rfl) fun i ro2 ka2 ta2 sg2 H2 hi _ _ e2 => by
    have hl : H2 a = some (.frz o (.dK xs)) := let ⟨_, _, ef⟩ := e2; ef.fr _ _ hB
    refine ⟨hl, ?_⟩
    have : xs.length = ds.length := by have := congrArg List.length hk; rwa [List.length_map, List.length_map] at this
    rw [this]
    rwa [List.length_map] at hi⟩⟩
theorem Gr.unB {B' F' : Hp} (h : Gr B' F F') (hs : ∀ c, B c ≠ none → B' c ≠ none) : Gr B F F' := ⟨h.sub, fun c h1 h2 => h.off c h1 (hs c h2)⟩
theorem upd_id {o : HO} (h : H a = some o) : upd H a o = H := by
  funext c
  unfold upd
  split
  · rename_i q; rw [q, h]
  · rfl
/-- a frozen dict is locked: what holds then, and the way back -/
theorem En.lockD {ds : List (Key × D)} (e : En K B F0 ro ka ta sg H) (hp : EvP K te ro (.val (.dic ds))) : ∃ (F : Hp) (a : Addr) (xs : List (Key × V)), Gr B F0 F ∧ F a = some (.dK xs) ∧ xs.map (·.1) = ds.map (·.1) ∧
    (H a = some (.dK xs) ∨ ∃ o, H a = some (.frz o (.dK xs))) ∧ (∀ y, B a = some y → H a = some y) ∧
    (∀ o, (∀ o', H a = some (.frz o' (.dK xs)) → o' = o) → En K (upd B a (.frz o (.dK xs))) F ro ka ta sg (upd H a (.frz o (.dK xs))) ∧ ∀ Q : VK, Q (.ref a) (upd H a (.frz o (.dK xs))) → te sg (upd H a (.frz o (.dK xs))) Q) := by
  obtain ⟨F, g, ef⟩ := e
  obtain ⟨v, h1, h2⟩ := hp B F ka ta sg H ef
  obtain ⟨a, xs, rfl, h3, h4⟩ := h1
  have hF : F a = some (.dK xs) := by
    rcases h3 with h3 | ⟨o, h3⟩
    · exact h3
    · have := ef.nz a _ h3; cases this
  have hH : H a = some (.dK xs) ∨ ∃ o, H a = some (.frz o (.dK xs)) := (ef.fz a _ hF).imp id fun z => z.2
  refine ⟨F, a, xs, g, hF, keys_of h4, hH, fun y hy => ef.fr _ _ hy, fun o ho => ?_⟩
  have hH2 : H a = some (.dK xs) ∨ H a = some (.frz o (.dK xs)) := hH.imp id fun ⟨o', z⟩ => by rw [← ho o' z]; exact z
  refine ⟨⟨F, Gr.refl _ _, ef.lockF hF rfl hH2⟩, fun Q q => h2 _ Q (fun c u hc hl => ?_) q⟩
  by_cases e : c = a
  · subst e
    rcases hH2 with z | z
    · rw [z] at hc; cases hc; cases hl
    · rw [z] at hc; cases hc; exact upd_same
  · rw [upd_ne e]; exact hc
theorem En.unlockD {o : Obj} {xs : List (Key × V)} {y : HO} (e : En K (upd B a (.frz o (.dK xs))) F ro ka ta sg H) (g : Gr B F0 F) (hF : F a = some (.dK xs)) (hx : y = .dK xs ∨ y = .frz o (.dK xs)) (hB : ∀ z, B a = some z → z = y) : En K B F0 ro ka ta sg (upd H a y) := by
  obtain ⟨F2, g2, ef⟩ := e
  have g3 : Gr B F F2 := Gr.unB g2 fun c hc => by
    by_cases e : c = a
    · subst e; rw [upd_same]; exact fun z => by cases z
    · rw [upd_ne e]; exact hc
  exact ⟨F2, g.trans g3, ef.unlockF (g2.sub _ _ hF) rfl hx hB⟩
/-- for k in d, d frozen -/
theorem g_forK {ds : List (Key × D)} {g : TG} {tb : TS} (hp : EvP K te ro (.val (.dic ds))) (Inv : Nat → Ro → Cells → Prop) (InvB : Ro → Cells → Prop) (h0 : Inv 0 ro ka)
    (hs : ∀ B' F1 rt' bk' ta', (∀ out, RtOk K B F0 out De.rt → RtOk K B' F1 out rt') → (∀ ro2 ka2, InvB ro2 ka2 → Gp K B' F1 ta' bk' ro2 ka2) → ∀ i kv ro2 ka2, ds[i]? = some kv → Inv i ro2 ka2 → ∃ ro3, AsT K g (.val (kD kv.1)) ro2 ro3 ∧
      Gp K B' F1 ta' (tb ⟨Jp K B' F1 ta' (Inv (i + 1)), rt', bk', Jp K B' F1 ta' (Inv (i + 1))⟩) ro3 ka2)
    (hd : ∀ ro2 ka2, (Inv ds.length ro2 ka2 ∨ InvB ro2 ka2) → Gp K B F0 ta De.nx ro2 ka2) : Gp K B F0 ta (tLkS (tFor (iKeys te) g tb) De) ro ka := fun sg H e => by
  obtain ⟨F, a, xs, gr, hF, hk, hH, hBH, lock⟩ := e.lockD hp
  -- the loop itself, between the lock and the way back
  have core : ∀ (o : Obj) (y : HO) (De' : Ends), (∀ o', H a = some (.frz o' (.dK xs)) → o' = o) → (y = .dK xs ∨ y = .frz o (.dK xs)) → (∀ z, B a = some z → z = y) →
      (∀ sg' H', H' a = some (.frz o (.dK xs)) → De.nx sg' (upd H' a y) → De'.nx sg' H') → (∀ v H', H' a = some (.frz o (.dK xs)) → De.rt v (upd H' a y) → De'.rt v H') → tFor (iKeys te) g tb De' sg (upd H a (.frz o (.dK xs))) := by
    intro o y De' ho hy hBy hnx hrt
    obtain ⟨e1, hte⟩ := lock o ho
    have hB1 : upd B a (.frz o (.dK xs)) a = some (.frz o (.dK xs)) := upd_same
    have fin : ∀ ro2 ka2 sg2 H2, (Inv ds.length ro2 ka2 ∨ InvB ro2 ka2) → En K (upd B a (.frz o (.dK xs))) F ro2 ka2 ta sg2 H2 → De'.nx sg2 H2 := fun ro2 ka2 sg2 H2 i e2 =>
      hnx sg2 H2 (let ⟨_, _, ef⟩ := e2; ef.fr _ _ hB1) (hd ro2 ka2 i _ _ (e2.unlockD gr hF hy hBy))
    have rt' : ∀ out, RtOk K B F0 out De.rt → RtOk K (upd B a (.frz o (.dK xs))) F out De'.rt := fun out h d ka v H' o' e2 =>
      hrt v H' (let ⟨_, _, ef⟩ := e2; ef.fr _ _ hB1) (h d ka v _ o' (e2.unlockD gr hF hy hBy))
    refine ei_at (ds := ds) e1 hB1 hk hte _ fun J ta' H1 hta e2 hgo hst => ?_
    refine ⟨fun i m sg H => m = ds.length - i ∧ i ≤ ds.length ∧ Jp K (upd B a (.frz o (.dK xs))) F ta' (Inv i) sg H, ⟨ds.length, by simp, Nat.zero_le _, ro, ka, h0, e2⟩, ?_⟩
    rintro i m sg2 H2 ⟨rfl, hi, ro2, ka2, inv, e3⟩
    by_cases hlt : i < ds.length
    · have hw : (ds.map fun kv => W.val (kD kv.1))[i]? = some (W.val (kD ds[i].1)) := by rw [List.getElem?_map, List.getElem?_eq_getElem hlt]; rfl
      obtain ⟨g1, g2⟩ := hgo i _ ro2 ka2 ta' sg2 H2 hw trivial (fun p hp => hp) e3
      refine .inr ⟨g1, Jp K (upd B a (.frz o (.dK xs))) F ta' (Inv (i + 1)), fun sg' H' q => ⟨ds.length - (i + 1), by omega, rfl, hlt, q⟩, fun x H3 y3 => ?_⟩
      have e4 := g2 x H3 y3
      obtain ⟨ro3, ast, gp⟩ := hs _ F De'.rt De'.nx ta' rt' (fun ro4 ka4 ib sg4 H4 e5 => fin ro4 ka4 sg4 H4 (.inr ib) (e5.held hta)) i ds[i] ro2 ka2 (List.getElem?_eq_getElem hlt) inv
      exact ast _ F ka2 _ sg2 H3 x _ e4 List.mem_cons_self fun sg' e' => gp _ _ e'.pop
    · have ei : i = ds.length := by omega
      subst ei
      exact .inl ⟨hst _ ro2 ka2 ta' sg2 H2 (by rw [List.length_map]; exact Nat.le_refl _) trivial (fun p hp => hp) e3, fin ro2 ka2 sg2 H2 (.inl inv) (e3.held hta)⟩
  rcases hH with hH | ⟨o, hH⟩
  · refine .inr ⟨a, .dK xs, hH, trivial, fun o => ?_⟩
    exact core o (.dK xs) _ (fun o' z => by rw [hH] at z; cases z) (.inl rfl) (fun z hz => by have := hBH z hz; rw [hH] at this; cases this; rfl) (fun sg' H' h1 h2 => ⟨h1, h2⟩) fun v H' h1 h2 => ⟨h1, h2⟩
  · refine .inl ?_
    have := core o (.frz o (.dK xs)) De (fun o' z => by rw [hH] at z; cases z; rfl) (.inr rfl) (fun z hz => by have := hBH z hz; rw [hH] at this; cases this; rfl) (fun sg' H' h1 h2 => by rwa [upd_id h1] at h2) fun v H' h1 h2 => by rwa [upd_id h1] at h2
    rwa [upd_id hH] at this

theorem q_forK {ds : List (Key × D)} {g : TG} {tb : TS} (hp : EvP K te ro (.val (.dic ds))) (Inv : Nat → Ro → Cells → Prop) (InvB : Ro → Cells → Prop) (h0 : Inv 0 ro ka)
    (hs : ∀ B' F1 rt' bk' ta', (∀ out, RtOk K B F0 out De.rt → RtOk K B' F1 out rt') → (∀ ro2 ka2, InvB ro2 ka2 → Gp K B' F1 ta' bk' ro2 ka2) → ∀ i kv ro2 ka2, ds[i]? = some kv → Inv i ro2 ka2 → ∃ ro3, AsT K g (.val (kD kv.1)) ro2 ro3 ∧
      Gp K B' F1 ta' (tb ⟨Jp K B' F1 ta' (Inv (i + 1)), rt', bk', Jp K B' F1 ta' (Inv (i + 1))⟩) ro3 ka2)
    (hd : ∀ ro2 ka2, (Inv ds.length ro2 ka2 ∨ InvB ro2 ka2) → Gp K B F0 ta (u De) ro2 ka2) : Gp K B F0 ta (tSeq (tLkS (tFor (iKeys te) g tb)) u De) ro ka := g_forK (De := { De with nx := u De }) hp Inv InvB h0 hs hd
/-- what is made while a frozen dict is locked -/
theorem lkE_of {ds : List (Key × D)} {Q : VK} {t2 : TE} {R : Nd → Cells → Prop} (e : En K B F0 ro ka ta sg H) (hp : EvP K te ro (.val (.dic ds)))
    (h : ∀ (B' F1 H1 : Hp) (Q' : VK), En K B' F1 ro ka ta sg H1 → EvIat K B' F1 (iKeys te) ro (ds.map fun kv => W.val (kD kv.1)) (fun _ => True) ka ta sg H1 →
      (∀ n k a H', R n k → En K B' F1 ro (k ++ [(a, n)]) ta sg H' → Q' (.ref a) H') → t2 sg H1 Q')
    (q : ∀ n k a H', R n k → En K B F0 ro (k ++ [(a, n)]) ta sg H' → Q (.ref a) H') : tLkE t2 sg H Q := by
  obtain ⟨F, a, xs, gr, hF, hk, hH, hBH, lock⟩ := e.lockD hp
  rcases hH with hH | ⟨o, hH⟩
  · refine .inr ⟨a, .dK xs, hH, trivial, fun o => ?_⟩
    obtain ⟨e1, hte⟩ := lock o fun o' z => by rw [hH] at z; cases z
    refine h _ F _ _ e1 (ei_at (ds := ds) e1 upd_same hk hte) fun n k a' H' r e2 => ?_
    exact ⟨let ⟨_, _, ef⟩ := e2; ef.fr _ _ upd_same, q n k a' _ r (e2.unlockD gr hF (.inl rfl) fun z hz => by have := hBH z hz; rw [hH] at this; cases this; rfl)⟩
  · obtain ⟨e1, hte⟩ := lock o fun o' z => by rw [hH] at z; cases z; rfl
    refine .inl ?_
    have := h _ F _ Q e1 (ei_at (ds := ds) e1 upd_same hk hte) fun n k a' H' r e2 => by
      have e3 := e2.unlockD gr hF (.inr rfl) fun z hz => by have := hBH z hz; rw [hH] at this; cases this; rfl
      have at_ : H' a = some (.frz o (.dK xs)) := let ⟨_, _, ef⟩ := e2; ef.fr _ _ upd_same
      rw [upd_id at_] at e3
      exact q n k a' H' r e3
    rwa [upd_id hH] at this
/-- [e for k in d if ..], d frozen -/
theorem evr_lcK {ds : List (Key × D)} {j : Nat} {vs : List Nat} (hp : EvP K tg ro (.val (.dic ds))) (hj : j ∈ vs) (hn : ds.length ≤ 1000000) (Inv : Nat → List D → Cells → Prop) (h0 : Inv 0 [] ka)
    (hs : ∀ (i : Nat) (kv : Key × D) acc k, ds[i]? = some kv → Inv i acc k → (∃ k2, EvT K tt ((wipeR ro vs).set j (some (.val (kD kv.1)))) k false k2 ∧ Inv (i + 1) acc k2) ∨ ∃ k2 k3 d, EvT K tt ((wipeR ro vs).set j (some (.val (kD kv.1)))) k true k2 ∧ EvD K te ((wipeR ro vs).set j (some (.val (kD kv.1)))) k2 (.val d) k3 ∧ Inv (i + 1) (acc ++ [d]) k3)
    : EvNR K (tLkE (tLc (iKeys tg) (gName j) tt te vs)) ro ka (fun n k => ∃ acc, n = .lst acc ∧ Inv ds.length acc k) := fun B F0 ta sg H Q e q =>
  lkE_of (R := fun n k => ∃ acc, n = .lst acc ∧ Inv ds.length acc k) e hp (fun B' F1 H1 Q' e1 it q' => lc_at e1 it hj (by rw [List.length_map]; exact hn) Inv h0 (fun _ _ _ _ => ⟨trivial, fun _ => trivial⟩) (fun i w acc k hw inv => by
    rw [List.getElem?_map] at hw
    obtain ⟨kv, hkv, rfl⟩ := Option.map_eq_some_iff.mp hw
    exact hs i kv acc k hkv inv) fun n k a H' r e2 => q' n k a H' (by rw [List.length_map] at r; exact r) e2) q
/-- {k: v for x in d if ..}, d frozen -/
theorem evr_dcK {ds : List (Key × D)} {j : Nat} {vs : List Nat} (hp : EvP K tg ro (.val (.dic ds))) (hj : j ∈ vs) (hn : ds.length ≤ 1000000) (Inv : Nat → List (Key × D) → Cells → Prop) (h0 : Inv 0 [] ka)
    (hs : ∀ (i : Nat) (kv : Key × D) acc k, ds[i]? = some kv → Inv i acc k → (∃ k2, EvT K tt ((wipeR ro vs).set j (some (.val (kD kv.1)))) k false k2 ∧ Inv (i + 1) acc k2) ∨ ∃ k2 k3 k4 c d, EvT K tt ((wipeR ro vs).set j (some (.val (kD kv.1)))) k true k2 ∧ EvD K tk ((wipeR ro vs).set j (some (.val (kD kv.1)))) k2 (.val (kD c)) k3 ∧ EvD K tv ((wipeR ro vs).set j (some (.val (kD kv.1)))) k3 (.val d) k4 ∧ Inv (i + 1) (putT acc c d) k4)
    : EvNR K (tLkE (tDc (iKeys tg) (gName j) tt tk tv vs)) ro ka (fun n k => ∃ acc, n = .dic acc ∧ Inv ds.length acc k) := fun B F0 ta sg H Q e q =>
  lkE_of (R := fun n k => ∃ acc, n = .dic acc ∧ Inv ds.length acc k) e hp (fun B' F1 H1 Q' e1 it q' => dc_at e1 it hj (by rw [List.length_map]; exact hn) Inv h0 (fun _ _ _ _ => ⟨trivial, fun _ => trivial⟩) (fun i w acc k hw inv => by
    rw [List.getElem?_map] at hw
    obtain ⟨kv, hkv, rfl⟩ := Option.map_eq_some_iff.mp hw
    exact hs i kv acc k hkv inv) fun n k a H' r e2 => q' n k a H' (by rw [List.length_map] at r; exact r) e2) q
end
end DL

/-! EC: defaults, objects with cells in their fields, more of dicts (own work). -/
namespace DL
open PySem L2 PySem.W

/-! ### defaults -/
/-- the def at f keeps C, its defaults written out; dvs: its defaults -/
def FnD (P : Program) (w : World) (K : PySem.W.Frag) (mg : Str → Option Value) (base : Heap) (k : Nat) (f : Addr) (ps : List Str) (dvs : List V) (C : Ct) : Prop :=
  ∃ fd, FnOk P w K mg base (L2.CX P w) k f fd ps (spC K C) ∧ ∃ ds, Vals dvs ds ∧ Binds K fd ps ds
section
variable {P : Program} {w : World} {K : PySem.W.Frag} {mg : Str → Option Value} {base : Heap} {k j : Nat} {f : Addr} {ps : List Str} {dvs : List V} {C : Ct}
noncomputable def FnD.fd (F : FnD P w K mg base k f ps dvs C) : FuncData := Classical.choose F
theorem FnD.ok (F : FnD P w K mg base k f ps dvs C) : FnOk P w K mg base (L2.CX P w) k f F.fd ps (spC K C) := (Classical.choose_spec F).1
noncomputable def FnD.ds (F : FnD P w K mg base k f ps dvs C) : List Value := Classical.choose (Classical.choose_spec F).2
theorem FnD.dv (F : FnD P w K mg base k f ps dvs C) : Vals dvs F.ds := (Classical.choose_spec (Classical.choose_spec F).2).1
theorem FnD.bn (F : FnD P w K mg base k f ps dvs C) : Binds K F.fd ps F.ds := (Classical.choose_spec (Classical.choose_spec F).2).2
theorem FnD.up (F : FnD P w K mg base j f ps dvs C) (h : j ≤ k) : FnD P w K mg base k f ps dvs C := let ⟨fd, a, b⟩ := F; ⟨fd, a.mono h, b⟩
end
/-- what stands for the defaults -/
def DvOk (K : PySem.W.Frag) (dvs : List V) (wd : List W) : Prop := dvs.length = wd.length ∧ ∀ B F p, p ∈ dvs.zip wd → WOk K B F p.1 p.2
theorem dv_nil {K : PySem.W.Frag} : DvOk K [] [] := ⟨rfl, fun _ _ _ h => by cases h⟩
theorem dv_cons {K : PySem.W.Frag} {v : V} {w : W} {dvs : List V} {wd : List W} (h : ∀ B F, WOk K B F v w) (r : DvOk K dvs wd) : DvOk K (v :: dvs) (w :: wd) := ⟨by rw [List.length_cons, List.length_cons, r.1], fun B F p hp => by
  rcases List.mem_cons.mp hp with rfl | hp
  · exact h B F
  · exact r.2 B F p hp⟩
section
variable {K : PySem.W.Frag} {B B' F F' F0 : Hp} {ro ro' : Ro} {ka k1 k2 k3 kr : Cells} {ta : List (V × W)} {sg sg' : L2.St} {H H' : Hp} {te tf tg td ty tk tv : TE} {tr : TA} {tt tu : TT} {w x y z : W} {n m : Nd} {C dx a o d : Addr} {b : Bool} {P : W → Cells → Prop} {De : Ends} {u : TS}
theorem En.more (e : En K B F0 ro ka ta sg H) {dvs : List V} {wd : List W} (h : DvOk K dvs wd) : En K B F0 ro ka (dvs.zip wd ++ ta) sg H := by
  obtain ⟨F, g, e⟩ := e
  refine ⟨F, g, { e with tm := fun p hp => ?_ }⟩
  rcases List.mem_append.mp hp with q | q
  · exact h.2 B F p q
  · exact e.tm p q
/-- C(e, ..), told by a word: __init__ may make more cells -/
theorem evr_make {Cc : Ct} {ws wd : List W} {dvs : List V} {E : XK} (ha : EvA K tr ro ka ws k1) (hd : DvOk K dvs wd)
    (hC : ∀ a, ∃ out, Cc (.val (.adr a) :: (ws ++ wd)) (k1 ++ [(a, .ins C [])]) out ∧ ∀ o k, out o k → o = .ret .non ∧ P (.val (.adr a)) k) : EvR K (tMake C (spC K Cc) dvs E tr) ro ka P := fun B F0 ta sg H Q e q =>
  ha B F0 ta sg H _ e fun vs H1 hl e1 => by
    intro x dx hx hdx hne
    obtain ⟨F, g, e1⟩ := e1
    obtain ⟨e2, g2⟩ := e1.lay (o := .own x) hdx rfl
    have hx2 : upd H1 dx (.own x) x = none := by rw [upd_ne (Ne.symm hne)]; exact hx
    have e3 := e2.cell (o := .ins C dx []) hx2 (n := .ins C []) ⟨dx, [], upd_same, rfl⟩
    obtain ⟨out, hC, ho⟩ := hC x
    have e4 : En K B F0 ro ((k1 ++ [(x, .ins C [])]) ++ []) (dvs.zip wd ++ (vs.zip ws ++ ta)) sg (upd (upd H1 dx (.own x)) x (.ins C dx [])) := by
      rw [List.append_nil]
      exact En.more ⟨_, g.trans g2, e3⟩ hd
    have hlen : (V.ref x :: (vs ++ dvs)).length = (W.val (.adr x) :: (ws ++ wd)).length := by rw [List.length_cons, List.length_cons, List.length_append, List.length_append, hl, hd.1]
    have hz : (V.ref x :: (vs ++ dvs)).zip (W.val (.adr x) :: (ws ++ wd)) = (V.ref x, W.val (.adr x)) :: (vs.zip ws ++ dvs.zip wd) := by rw [List.zip_cons_cons, List.zip_append hl]
    have e5 : En K B F0 ro ((k1 ++ [(x, .ins C [])]) ++ []) ((V.ref x :: (vs ++ dvs)).zip (W.val (.adr x) :: (ws ++ wd)) ++ ta) sg (upd (upd H1 dx (.own x)) x (.ins C dx [])) := by
      rw [hz]
      refine (e4.push_imm (v := .ref x) (w := .val (.adr x)) fun _ => rfl).held fun p hp => ?_
      rcases List.mem_cons.mp hp with rfl | hp
      · exact List.mem_cons_self
      · refine List.mem_cons_of_mem _ ?_
        rcases List.mem_append.mp hp with hp | hp
        · rcases List.mem_append.mp hp with hp | hp
          · exact List.mem_append_right _ (List.mem_append_left _ hp)
          · exact List.mem_append_left _ hp
        · exact List.mem_append_right _ (List.mem_append_right _ hp)
    refine sp_rel (kr := []) e5 hlen hC (fun o k h => ⟨_, (ho o k h).1⟩) fun d k2 v H' o e6 => ?_
    obtain ⟨he, p⟩ := ho _ _ o
    cases he
    rw [List.append_nil] at e6
    exact ⟨e6.tm_non List.mem_cons_self, q _ _ (.ref x) H' p (e6.pop.push_imm fun _ => rfl)⟩
theorem evr_ifT (h : EvT K tt ro ka true k1) (h1 : EvR K te ro k1 P) : EvR K (tIf tt te tf) ro ka P := fun B F0 ta sg H Q e q => h B F0 ta sg H _ e fun H1 e1 => h1 B F0 ta sg H1 Q e1 q
theorem evr_ifF (h : EvT K tt ro ka false k1) (h1 : EvR K tf ro k1 P) : EvR K (tIf tt te tf) ro ka P := fun B F0 ta sg H Q e q => h B F0 ta sg H _ e fun H1 e1 => h1 B F0 ta sg H1 Q e1 q
/-- o.f = e, e told by a word -/
theorem g_fldR {f : Str} (hv : EvR K tf ro ka P) (c : Cls K C) (nf : NoAttr K C f)
    (k : ∀ w k1, P w k1 → ∃ d k2 j fs, w = .val d ∧ EvD K te ro k1 (.val (.adr a)) k2 ∧ k2[j]? = some (a, .ins C fs) ∧ fs.length < 900 ∧ Gp K B F0 ta De.nx ro (k2.set j (a, .ins C (putD f d fs)))) : Gp K B F0 ta (sFld K te tf f De) ro ka := fun sg H e =>
  hv B F0 ta sg H _ e fun w k1 v H1 p e1 => by
    obtain ⟨d, k2, j, fs, rfl, ho, hj, hz, hk⟩ := k w k1 p
    refine ho B F0 _ sg H1 _ e1 fun x H2 e2 => ?_
    have hx := e2.tm_adr (v := x) (a := a) List.mem_cons_self
    subst hx
    obtain ⟨F, g, ef⟩ := e2
    obtain ⟨_, _, dx, xs, hH, rx⟩ := ef.ce _ (List.mem_of_getElem? hj)
    have vd := ef.tm (v, .val d) (List.mem_cons_of_mem _ List.mem_cons_self)
    have room : xs.length < 900 := by rw [rpf_len rx]; exact hz
    exact ⟨_, C, dx, xs, rfl, hH, c, nf, Nat.lt_trans room (by decide), hk _ _ ⟨F, g, (ef.write (o := .ins C dx (putF f v xs)) (n' := .ins C (putD f d fs)) hj ⟨dx, _, upd_same, rpf_put vd rx⟩).held fun p hp => List.mem_cons_of_mem _ (List.mem_cons_of_mem _ hp)⟩⟩
theorem q_fldR {f : Str} (hv : EvR K tf ro ka P) (c : Cls K C) (nf : NoAttr K C f)
    (k : ∀ w k1, P w k1 → ∃ d k2 j fs, w = .val d ∧ EvD K te ro k1 (.val (.adr a)) k2 ∧ k2[j]? = some (a, .ins C fs) ∧ fs.length < 900 ∧ Gp K B F0 ta (u De) ro (k2.set j (a, .ins C (putD f d fs)))) : Gp K B F0 ta (tSeq (sFld K te tf f) u De) ro ka := g_fldR (De := { De with nx := u De }) hv c nf k

/-! ### cells in fields, filled in -/
/-- what stands at a field, said otherwise -/
theorem rpf_fill {G : Hp} {x y : D} (h : ∀ u, Rp K G x u → Rp K G y u) {f : Str} : ∀ {fs : List (Str × D)} {r : List (Str × D)} {xs : List (Str × V)}, RpF K G (fs ++ (f, x) :: r) xs → RpF K G (fs ++ (f, y) :: r) xs
  | [], _, _, ⟨v, l, e, p, q⟩ => ⟨v, l, e, h v p, q⟩
  | _ :: _, _, _, ⟨v, l, e, p, q⟩ => ⟨v, l, e, p, rpf_fill h q⟩
/-- a field that holds the cell o, which is frozen by now -/
theorem En.fill {v : D} {f : Str} {j : Nat} {fs r : List (Str × D)} (e : En K B F0 ro ka ta sg H) (ho : (V.ref o, W.val v) ∈ ta) (hj : ka[j]? = some (a, .ins C (fs ++ (f, .adr o) :: r))) : En K B F0 ro (ka.set j (a, .ins C (fs ++ (f, v) :: r))) ta sg H := by
  obtain ⟨F, g, e⟩ := e
  have hv := e.tm _ ho
  refine ⟨F, g, { e with nd := ?_, ce := fun p hp => ?_ }⟩
  · rw [List.map_set]
    have same : (ka.map (·.1)).set j a = ka.map (·.1) := List.ext_getElem? fun i => by
      by_cases hij : j = i
      · subst hij
        rw [List.getElem?_set_self (by rw [List.length_map]; exact (List.getElem?_eq_some_iff.mp hj).1), List.getElem?_map, hj]
        rfl
      · rw [List.getElem?_set_ne hij]
    exact same.symm ▸ e.nd
  · rcases List.mem_or_eq_of_mem_set hp with q | rfl
    · exact e.ce p q
    · obtain ⟨h1, h2, dx, xs, h3, h4⟩ := e.ce _ (List.mem_of_getElem? hj)
      exact ⟨h1, h2, dx, xs, h3, rpf_fill (fun u hu => by rw [show u = .ref o from hu]; exact hv) h4⟩
end

section
variable {K : PySem.W.Frag} {B B' F F' F0 : Hp} {ro ro' : Ro} {ka k1 k2 k3 kr : Cells} {ta : List (V × W)} {sg sg' : L2.St} {H H' : Hp} {te tf tg td ty tk tv : TE} {tr : TA} {tt tu : TT} {w x y z : W} {n m : Nd} {C dx a o d : Addr} {b : Bool} {P : L2.St → Hp → Prop} {De : Ends} {u : TS}
/-- what a slot holds, said otherwise -/
theorem En.reslot {i : Nat} {v : D} (e : En K B F0 ro ka ta sg H) (hi : ro[i]? = some (some (.val (.adr a)))) (hv : (V.ref a, W.val v) ∈ ta) : En K B F0 (ro.set i (some (.val v))) ka ta sg H := by
  obtain ⟨F, g, e⟩ := e
  refine ⟨F, g, { e with ln := by rw [List.length_set]; exact e.ln, sl := fun j w q => ?_ }⟩
  rw [List.getElem?_set] at q
  split at q
  · rename_i hij
    subst hij
    split at q
    · cases q
      obtain ⟨x, h1, h2⟩ := e.sl _ _ hi
      obtain rfl : x = V.ref a := h2
      exact ⟨_, h1, e.tm _ hv⟩
    · cases q
  · exact e.sl j w q
/-- an own dict, frozen -/
theorem Gp.frzK {i : Nat} {ds : List (Key × D)} (hi : ro[i]? = some (some (.val (.adr a)))) (hp : (kr ++ [(a, Nd.dic ds)]).Perm ka) (h : Gp K B F0 ta P (ro.set i (some (.val (.dic ds)))) kr) : Gp K B F0 ta P ro ka := fun sg H e =>
  h sg H ((En.reslot (e.perm hp).freeze_k hi List.mem_cons_self).held fun p q => List.mem_cons_of_mem _ q)
/-- an object whose fields hold an own list and an own dict, frozen as a whole -/
theorem Gp.frzN {i : Nat} {f g : Str} {xs : List D} {ds : List (Key × D)} (hi : ro[i]? = some (some (.val (.adr a)))) (hp : (kr ++ [(a, Nd.ins C [(f, .adr o), (g, .adr d)]), (o, Nd.lst xs), (d, Nd.dic ds)]).Perm ka)
    (h : Gp K B F0 ta P (ro.set i (some (.val (.ins C [(f, .lst xs), (g, .dic ds)])))) kr) : Gp K B F0 ta P ro ka := fun sg H e => by
  have e0 : En K B F0 ro ((kr ++ [(a, Nd.ins C [(f, .adr o), (g, .adr d)]), (o, Nd.lst xs)]) ++ [(d, Nd.dic ds)]) ta sg H := by
    have := e.perm hp
    rwa [List.append_assoc]
  have e1 := e0.freeze_k
  have e2 := e1.fill (v := .dic ds) (f := g) (j := kr.length) (a := a) (C := C) (fs := [(f, .adr o)]) (r := []) List.mem_cons_self (by simp)
  have e3 : En K B F0 ro ((kr ++ [(a, Nd.ins C [(f, .adr o), (g, .dic ds)])]) ++ [(o, Nd.lst xs)]) ((V.ref d, W.val (.dic ds)) :: ta) sg H := by
    rw [List.set_append_right _ _ (Nat.le_refl _), Nat.sub_self] at e2
    rwa [List.append_assoc]
  have e4 := e3.freeze_l
  have e5 := e4.fill (v := .lst xs) (f := f) (j := kr.length) (a := a) (C := C) (fs := []) (r := [(g, .dic ds)]) List.mem_cons_self (by simp)
  rw [List.set_append_right _ _ (Nat.le_refl _), Nat.sub_self] at e5
  have e6 : En K B F0 ro kr _ sg H := En.freeze_i e5
  exact h sg H ((En.reslot e6 hi List.mem_cons_self).held fun p q => List.mem_cons_of_mem _ (List.mem_cons_of_mem _ (List.mem_cons_of_mem _ q)))
/-- a new value, its object with fields frozen as a whole -/
theorem EvR.frzN {f g : Str} {xs : List D} {ds : List (Key × D)} {R : W → Cells → Prop} (h : EvR K te ro ka R) (hR : ∀ w k, R w k → ∃ a o d, w = .val (.adr a) ∧ k = k1 ++ [(a, Nd.ins C [(f, .adr o), (g, .adr d)]), (o, Nd.lst xs), (d, Nd.dic ds)]) : EvD K te ro ka (.val (.ins C [(f, .lst xs), (g, .dic ds)])) k1 := fun B F0 ta sg H Q e q =>
  h B F0 ta sg H Q e fun w k v H' p e1 => by
    obtain ⟨a, o, d, rfl, rfl⟩ := hR w k p
    have hv := e1.tm_adr (v := v) (a := a) List.mem_cons_self
    subst hv
    have e0 : En K B F0 ro ((k1 ++ [(a, Nd.ins C [(f, .adr o), (g, .adr d)]), (o, Nd.lst xs)]) ++ [(d, Nd.dic ds)]) ta sg H' := by
      have := e1.pop
      rwa [List.append_assoc]
    have e2 := e0.freeze_k.fill (v := .dic ds) (f := g) (j := k1.length) (a := a) (C := C) (fs := [(f, .adr o)]) (r := []) List.mem_cons_self (by simp)
    have e3 : En K B F0 ro ((k1 ++ [(a, Nd.ins C [(f, .adr o), (g, .dic ds)])]) ++ [(o, Nd.lst xs)]) ((V.ref d, W.val (.dic ds)) :: ta) sg H' := by
      rw [List.set_append_right _ _ (Nat.le_refl _), Nat.sub_self] at e2
      rwa [List.append_assoc]
    have e5 := e3.freeze_l.fill (v := .lst xs) (f := f) (j := k1.length) (a := a) (C := C) (fs := []) (r := [(g, .dic ds)]) List.mem_cons_self (by simp)
    rw [List.set_append_right _ _ (Nat.le_refl _), Nat.sub_self] at e5
    exact q _ _ ((En.freeze_i e5).held fun p hp => by
      rcases List.mem_cons.mp hp with rfl | hp
      · exact List.mem_cons_self
      · exact List.mem_cons_of_mem _ (List.mem_cons_of_mem _ (List.mem_cons_of_mem _ hp)))

/-! ### len of a dict, d.update(..), xs.clear() -/
def rLenD : List V → Hp → VK → Prop := fun xs H Q => ∃ a kvs, xs = [V.ref a] ∧ Rd H a (.dK kvs) ∧ Q (.int kvs.length) H
theorem cr_lenD {X : Cx} : CallR X (.builtin "len") rLenD := fun pins s σ H xs us Q I rv ⟨a, kvs, e, rd, q⟩ => by
  subst e
  obtain ⟨v, rfl, rx⟩ := vals1 rv
  obtain rfl : v = Value.ref a := rx
  exact d_len I rd fun t _ I' => ⟨.int kvs.length, H, I', ⟨t, rfl⟩, q⟩
def rLenV (K : PySem.W.Frag) : List V → Hp → VK → Prop := fun xs H Q => rLenU K xs H Q ∨ rLenD xs H Q
theorem call_lenV {X : Cx} : CallR X (.builtin "len") (rLenV X.K) := fun pins s σ H xs us Q I rv h => h.elim (call_lenU pins s σ H xs us Q I rv) (cr_lenD pins s σ H xs us Q I rv)
theorem ev_lenD {ds : List (Key × D)} (h : EvD K te ro ka w k1) (l : Dk k1 w ds b) : EvD K (tCB rLenD (tCons te tNil)) ro ka (.val (.int ds.length)) k1 := fun B F0 ta sg H Q e q => h B F0 ta sg H _ e fun v H1 e1 => by
  obtain ⟨F, a, xs, g, ef, rfl, h3, h4⟩ := e1.dk l List.mem_cons_self
  have hl : xs.length = ds.length := (rpk_pt.mp h4).len
  exact ⟨a, xs, rfl, h3, hl ▸ q _ _ (e1.pop.push_imm fun _ => rfl)⟩
def mergeT (ds ms : List (Key × D)) : List (Key × D) := ms.foldl (fun acc p => putT acc p.1 p.2) ds
theorem pt_merge {R : D → V → Prop} : ∀ {ms : List (Key × D)} {ys : List (Key × V)} {ds : List (Key × D)} {xs : List (Key × V)}, PT R ms ys → PT R ds xs → PT R (mergeT ds ms) (mergeK xs ys)
  | [], ys, _, _, h, g => by
    obtain rfl : ys = [] := h
    exact g
  | (k, d) :: ms, ys0, ds, xs, h, g => by
    obtain ⟨v, ys, e, p, q⟩ := h
    rw [e]
    have r : PT R (mergeT (putT ds k d) ms) (mergeK (putT xs k v) ys) := pt_merge q (g.put k p)
    exact r
def rDUpd : V → List V → Hp → VK → Prop := fun x vs H Q => ∃ (a b : Addr) (xs ys : List (Key × V)), x = .ref a ∧ vs = [.ref b] ∧ a ≠ b ∧ H a = some (.dK xs) ∧ Rd H b (.dK ys) ∧ xs.length + ys.length ≤ sizeLine ∧ (mergeK xs ys).length ≤ sizeLine ∧ Q .non (upd H a (.dK (mergeK xs ys)))
theorem mt_dupd {X : Cx} : MtR X "dict.update" rDUpd := fun pins s σ H x vs v us Q I rx rv ⟨a, b, xs, ys, ex, ev, ne, ha, hb, hs, hm, q⟩ => by
  subst ex ev
  obtain rfl : v = Value.ref a := rx
  obtain ⟨y, rfl, ry⟩ := vals1 rv
  obtain rfl : y = Value.ref b := ry
  obtain ⟨_, sa, ps, ra, da⟩ := dk_of I.hok ha
  obtain ⟨_, sb, qs, rb, db⟩ := dk_rd I.hok hb
  have tot : ps.length + qs.length ≤ sizeLine := by rw [← ra.length, ← rb.length]; exact hs
  have act := PySem.meets_dict_update (mixKind X.prog X.w) a b ne sb
  refine call_meetsIn PySem.F.slot_dict_update da.typeIs PySem.F.entry_dict_update (PySem.F.args_dict_update_2 _ _) act ⟨ps, qs, da, db, tot, fun h' dd _ same => ?_⟩
  obtain ⟨ob, _, _, hob, _⟩ := id dd
  have J := d_write (ob := .dK (mergeK xs ys)) (t' := s.toks) I (by rw [ha]; exact True.intro) same ⟨ob, hob⟩ (dk_new hm sa (KV.merge rb ra) dd)
  exact ⟨.non, _, J, rfl, q⟩
theorem g_dupd {j : Nat} {ds ms : List (Key × D)} (ho : EvD K te ro ka (.val (.adr a)) k1) (h0 : ∃ (j0 : Nat) (ds0 : List (Key × D)), k1[j0]? = some (a, Nd.dic ds0)) (he : EvD K tf ro k1 (.val (.dic ms)) k2) (hj : k2[j]? = some (a, .dic ds)) (hz : ds.length + ms.length < 100000) (hz2 : (mergeT ds ms).length < 100000)
    (k : Gp K B F0 ta De.nx ro (k2.set j (a, .dic (mergeT ds ms)))) : Gp K B F0 ta (tDrop (tBM K "dict" rDUpd te (tCons tf tNil)) De) ro ka := fun sg H e => by
  refine ho B F0 ta sg H _ e fun u H1 e1 => ?_
  have hu := e1.tm_adr (v := u) (a := a) List.mem_cons_self
  subst hu
  obtain ⟨j0, ds0, h0⟩ := h0
  refine ⟨?_, he B F0 _ sg H1 _ e1 fun v H2 e2 => ?_⟩
  · obtain ⟨_, _, _, xs, hx, _⟩ := e1.cellAt h0
    exact .inr (.inr (.inl ⟨rfl, .inl ⟨xs, hx⟩⟩))
  · obtain ⟨F, g, ef, xs, hx, rx⟩ := e2.cellAt hj
    obtain ⟨c, ys, rfl, hc, rc⟩ := ef.tm (v, .val (.dic ms)) List.mem_cons_self
    have off := (ef.ce _ (List.mem_of_getElem? hj)).1
    have ne : a ≠ c := fun z => by
      subst z
      rcases hc with q | ⟨_, q⟩ <;> rw [show F a = none from off] at q <;> cases q
    have pm := pt_merge (rpk_pt.mp rc) (rpk_pt.mp rx)
    have big : 100000 ≤ sizeLine := by decide
    refine ⟨a, c, xs, ys, rfl, rfl, ne, hx, ef.fz.rd ef.nz hc, ?_, ?_, k _ _ ⟨F, g, ?_⟩⟩
    · rw [(rpk_pt.mp rx).len, (rpk_pt.mp rc).len]; omega
    · rw [pm.len]; omega
    · exact (ef.write (o := .dK (mergeK xs ys)) (n' := .dic (mergeT ds ms)) hj ⟨_, upd_same, rpk_pt.mpr pm⟩).held fun p hp => List.mem_cons_of_mem _ (List.mem_cons_of_mem _ hp)
theorem q_dupd {j : Nat} {ds ms : List (Key × D)} (ho : EvD K te ro ka (.val (.adr a)) k1) (h0 : ∃ (j0 : Nat) (ds0 : List (Key × D)), k1[j0]? = some (a, Nd.dic ds0)) (he : EvD K tf ro k1 (.val (.dic ms)) k2) (hj : k2[j]? = some (a, .dic ds)) (hz : ds.length + ms.length < 100000) (hz2 : (mergeT ds ms).length < 100000)
    (k : Gp K B F0 ta (u De) ro (k2.set j (a, .dic (mergeT ds ms)))) : Gp K B F0 ta (tSeq (tDrop (tBM K "dict" rDUpd te (tCons tf tNil))) u De) ro ka := g_dupd (De := { De with nx := u De }) ho h0 he hj hz hz2 k
theorem g_clear {j : Nat} {ds : List D} (ho : EvD K te ro ka (.val (.adr a)) k1) (hj : k1[j]? = some (a, .lst ds)) (k : Gp K B F0 ta De.nx ro (k1.set j (a, .lst []))) : Gp K B F0 ta (tDrop (tBM0 K "list" rClear te) De) ro ka := fun sg H e => by
  refine ho B F0 ta sg H _ e fun v H1 e1 => ?_
  have hv := e1.tm_adr (v := v) (a := a) List.mem_cons_self
  subst hv
  obtain ⟨F, g, ef⟩ := e1
  obtain ⟨xs, hx, _⟩ := ef.rd_lst hj
  exact ⟨.inl ⟨rfl, xs, .inl (.inl hx)⟩, a, xs, rfl, rfl, hx, k _ _ ⟨F, g, (ef.write (o := .lst []) (n' := .lst []) hj ⟨[], upd_same, rfl⟩).held fun p hp => List.mem_cons_of_mem _ hp⟩⟩
theorem q_clear {j : Nat} {ds : List D} (ho : EvD K te ro ka (.val (.adr a)) k1) (hj : k1[j]? = some (a, .lst ds)) (k : Gp K B F0 ta (u De) ro (k1.set j (a, .lst []))) : Gp K B F0 ta (tSeq (tDrop (tBM0 K "list" rClear te)) u De) ro ka := g_clear (De := { De with nx := u De }) ho hj k
end
end DL
namespace DL
open PySem L2 PySem.W
/-! ### facts -/
/-- an empty tuple of the module -/
def IsT0 (K : PySem.W.Frag) (a : Addr) : Prop := ∃ (o : Obj) (n : Nat), K.lookup a = some o ∧ o.cls = .type "tuple" ∧ o.data = .seq #[] n
def isT0 : Option Obj → Bool
  | some ⟨.type T, _, .seq its _, _⟩ => decide (T = "tuple") && its.isEmpty
  | _ => false
def fT0 (p : Str × Option Str) (i : Nat) : Fx := fun K => isT0 (K.lookup (He.dflAt p i K))
theorem t0_ok {K : PySem.W.Frag} {p : Str × Option Str} {i : Nat} (h : fT0 p i K = true) : IsT0 K (He.dflAt p i K) := by
  unfold fT0 at h
  cases hl : K.lookup (He.dflAt p i K) with
  | none => rw [hl] at h; cases h
  | some ob =>
    rw [hl] at h
    obtain ⟨cls, dict, data, sl⟩ := ob
    cases cls with
    | type T =>
      cases data with
      | seq its n =>
        have h' : (decide (T = "tuple") && its.isEmpty) = true := h
        rw [Bool.and_eq_true, decide_eq_true_eq] at h'
        obtain ⟨rfl, h2⟩ := h'
        have : its = #[] := Array.isEmpty_iff.mp h2
        subst this
        exact ⟨_, n, hl, rfl, rfl⟩
      | _ => cases h
    | _ => cases h
theorem wok_t0 {K : PySem.W.Frag} {a : Addr} (h : IsT0 K a) (B F : Hp) : WOk K B F (.ref a) (.val (.tup [])) := by
  obtain ⟨o, n, h1, h2, h3⟩ := h
  exact ⟨a, [], rfl, .inr ⟨o, #[], n, h1, h2, h3, Nat.zero_le _, .nil⟩, rfl⟩
section
variable {P : Program} {w : World} {K : PySem.W.Frag} {mg : Str → Option Value} {base : Heap} {f : Addr} {fd : FuncData} {x qual : Str} {params : Arguments} {body : List Stmt} {scope : Scope} {ps N : List Str} {k j : Nat} {C : Ct} {dvs : List V}
theorem fn_okD (F : FunD K x qual params body scope dvs [] f fd) (S : FnScope N ps scope) (hb : ∃ ds, Vals dvs ds ∧ Binds K fd ps ds) (hl : ∀ ws ka out, C ws ka out → ws.length = ps.length)
    (h : ∀ (cdv : Value) (A : Around) (outer : List Env) (s : Shared) (H : Hp) (E : XK), Room k (A.deeper (PyProof.Rows.envOfC qual scope s.heap.objs.size f cdv)) →
      ∃ t, PSs (cxOf (L2.CX P w) P w K mg base N qual scope f cdv A outer s H E) body t ∧
        ∀ ws ka out B F0 Q, C ws ka out → RtOk K B F0 out Q → RxOk K B F0 out E → Gp K B F0 [] (t { nx := fun _ H' => Q .non H', rt := Q }) (ws.map some ++ List.replicate (N.length - ps.length) none) ka) : FnD P w K mg base (k + 1) f ps dvs C := ⟨fd, fn_okG F S hl h, hb⟩
end
end DL
namespace DL
open PySem L2 PySem.W
theorem hu1 {k : Nat} {A : Around} (r : Room k A) : A.units + 1 < cLine := by have := r.units; omega
end DL

namespace DL
open PySem L2 PySem.W
section
variable {K : PySem.W.Frag} {B F F0 : Hp} {ro : Ro} {ka k1 k2 : Cells} {ta : List (V × W)} {sg : L2.St} {H : Hp} {te tf : TE} {w : W} {n : Nd}
/-! ### is None -/
def isNonD : D → Bool
  | .non => true
  | _ => false
theorem isNonD_of {F : Hp} {d : D} {v : V} (h : Rp K F d v) : decide (v = .non) = isNonD d := by
  cases d with
  | non => rw [show v = .non from h]; rfl
  | bl b => rw [show v = .bl b from h]; rfl
  | int i => rw [show v = .int i from h]; rfl
  | str s => rw [show v = .str s from h]; rfl
  | ty n => rw [show v = .ty n from h]; rfl
  | adr a => rw [show v = .ref a from h]; rfl
  | tup ds => obtain ⟨a, _, rfl, _⟩ := h; rfl
  | lst ds => obtain ⟨a, _, rfl, _⟩ := h; rfl
  | dic ds => obtain ⟨a, _, rfl, _⟩ := h; rfl
  | dit ds => obtain ⟨a, _, rfl, _⟩ := h; rfl
  | ins C fs => obtain ⟨a, _, _, rfl, _⟩ := h; rfl
theorem En.isN {d : D} (e : En K B F0 ro ka ta sg H) {v : V} (h : (v, w) ∈ ta) (hw : w = .val d ∨ w = .vw d) : decide (v = .non) = isNonD d := by
  obtain ⟨F, _, e⟩ := e
  have := e.tm _ h
  rcases hw with rfl | rfl
  · exact isNonD_of (F := F) this
  · exact isNonD_of (F := uni B F) this
theorem ev_isN {d : D} (h : EvD K te ro ka w k1) (hw : w = .val d ∨ w = .vw d := by exact .inl rfl) : EvD K (tOp rIsN te (tC .non)) ro ka (.val (.bl (isNonD d))) k1 := fun B F0 ta sg H Q e q => h B F0 ta sg H _ e fun v H1 e1 =>
  ⟨rfl, by rw [e1.isN List.mem_cons_self hw]; exact q _ _ (e1.pop.push_imm fun _ => rfl)⟩
theorem ev_notN {d : D} (h : EvD K te ro ka w k1) (hw : w = .val d ∨ w = .vw d := by exact .inl rfl) : EvD K (tOp rNotN te (tC .non)) ro ka (.val (.bl (!isNonD d))) k1 := fun B F0 ta sg H Q e q => h B F0 ta sg H _ e fun v H1 e1 =>
  ⟨rfl, by rw [e1.isN List.mem_cons_self hw]; exact q _ _ (e1.pop.push_imm fun _ => rfl)⟩
theorem EvNR.toR {R : Nd → Cells → Prop} (h : EvNR K te ro ka R) : EvR K te ro ka (fun w k => ∃ a n k0, w = .val (.adr a) ∧ R n k0 ∧ k = k0 ++ [(a, n)]) := fun B F0 ta sg H Q e q =>
  h B F0 ta sg H Q e fun n k a H' r e1 => q _ _ (.ref a) H' ⟨a, n, k, rfl, r, rfl⟩ (e1.push_imm fun _ => rfl)
end
end DL

namespace DL
open PySem L2 PySem.W
theorem sqf_stD (b : Bool) (ss : List Str) : SqF b (stD ss) := .inr (List.all_eq_true.mpr fun d hd => by
  obtain ⟨s, _, rfl⟩ := List.mem_map.mp hd
  rfl)
theorem stD_map {β : Type} (f : β → Str) (xs : List β) : stD (xs.map f) = xs.map fun x => .str (f x) := by
  unfold stD
  rw [List.map_map]
  rfl
end DL
namespace DL
open PySem L2 PySem.W
section
variable {K : PySem.W.Frag} {ro : Ro} {ka k1 k2 k3 : Cells} {te : TE} {tr : TA} {w : W} {E : XK}
/-- a method, its end told -/
theorem ev_methA {Cc : Ct} {ws : List W} {C : Addr} {m : Str} {fs : List (Str × D)} {b : Bool} {d : D} (kr : Cells) (h : EvD K te ro ka w k1) (l : Io k1 w C fs b) (hm : fs.lookup m = none) (ha : EvA K tr ro k1 ws (k2 ++ kr)) (hC : Cc (w :: ws) k2 (Rt d k3)) : EvD K (tMeth C m (spC K Cc) [] E te tr) ro ka (.val d) (k3 ++ kr) :=
  (evr_meth kr h l hm ha hC fun o k ho => ⟨d, ho.1⟩).d fun w' k ⟨d', k4, ho, e1, e2⟩ => by
    obtain ⟨h1, h2⟩ := ho
    cases h1
    exact ⟨e1, by rw [e2, h2]⟩
theorem at_t3 {d1 d2 d3 : D} {i j k : Nat} : AsT K (gTup K 3 (gCons (gName i) (gCons (gName j) (gCons (gName k) gNil)))) (.val (.tup [d1, d2, d3])) ro (((ro.set i (some (.val d1))).set j (some (.val d2))).set k (some (.val d3))) := at_tup rfl (al_cons at_n (al_cons at_n (al_cons at_n al_nil)))
end
end DL
namespace DL
open PySem L2 PySem.W
/-! ### tables with text keys -/
section
variable {β : Type} {f : β → D}
def tbD (f : β → D) (xs : List (Str × β)) : List (Key × D) := xs.map fun p => (.inr p.1, f p.2)
abbrev keysT (xs : List (Str × β)) : List Str := xs.map (·.1)
theorem tbD_len (xs : List (Str × β)) : (tbD f xs).length = xs.length := List.length_map _
theorem tbD_app (xs ys : List (Str × β)) : tbD f (xs ++ ys) = tbD f xs ++ tbD f ys := List.map_append
theorem getT_isSome {κ α : Type} [DecidableEq κ] (kvs : List (κ × α)) (k : κ) : (getT kvs k).isSome = hasT kvs k := by
  unfold getT hasT
  rw [Option.isSome_map]
  induction kvs with
  | nil => rfl
  | cons x l ih =>
    rw [List.find?_cons, List.any_cons]
    cases h : decide (x.1 = k) with
    | true => rfl
    | false => rw [ih]; rfl
theorem tb_has {xs : List (Str × β)} {s : Str} : hasT (tbD f xs) (.inr s) = decide (s ∈ keysT xs) := by
  unfold hasT tbD
  rw [List.any_map, Bool.eq_iff_iff, List.any_eq_true, decide_eq_true_eq, List.mem_map]
  constructor
  · rintro ⟨r, h1, h2⟩
    exact ⟨r, h1, Sum.inr.inj (of_decide_eq_true h2)⟩
  · rintro ⟨r, h1, h2⟩
    exact ⟨r, h1, decide_eq_true (congrArg Sum.inr h2)⟩
theorem tb_in (xs : List (Str × β)) (s : Str) : (getT (tbD f xs) (.inr s)).isSome = decide (s ∈ keysT xs) := (getT_isSome _ _).trans tb_has
theorem tb_put {xs : List (Str × β)} {s : Str} {v : β} (h : ¬ s ∈ keysT xs) : putT (tbD f xs) (.inr s) (f v) = tbD f (xs ++ [(s, v)]) := by
  unfold putT
  rw [if_neg (by rw [tb_has, decide_eq_true_eq]; exact h), tbD_app]
  rfl
theorem tb_get {xs : List (Str × β)} (hn : (keysT xs).Nodup) {s : Str} {v : β} (h : (s, v) ∈ xs) : getT (tbD f xs) (.inr s) = some (f v) := by
  induction xs with
  | nil => cases h
  | cons x l ih =>
    have hn2 := List.nodup_cons.mp hn
    unfold getT tbD
    rw [List.map_cons, List.find?_cons]
    rcases List.mem_cons.mp h with e | h
    · rw [← e, decide_eq_true rfl]
      rfl
    · have ne : ¬ (Sum.inr x.1 : Int ⊕ Str) = .inr s := fun z => hn2.1 (by show x.1 ∈ _; rw [Sum.inr.inj z]; exact List.mem_map.mpr ⟨_, h, rfl⟩)
      rw [decide_eq_false ne]
      exact ih hn2.2 h
theorem tb_at {xs : List (Str × β)} {i : Nat} {kv : Key × D} (h : (tbD f xs)[i]? = some kv) : ∃ r, xs[i]? = some r ∧ kv = (.inr r.1, f r.2) := by
  unfold tbD at h
  rw [List.getElem?_map] at h
  obtain ⟨r, h1, h2⟩ := Option.map_eq_some_iff.mp h
  exact ⟨r, h1, h2.symm⟩
theorem keys_app (xs ys : List (Str × β)) : keysT (xs ++ ys) = keysT xs ++ keysT ys := List.map_append
theorem key_has {xs : List (Str × β)} {s : Str} (h : s ∈ keysT xs) : ∃ v, (s, v) ∈ xs := by
  obtain ⟨p, hp, rfl⟩ := List.mem_map.mp h
  exact ⟨p.2, hp⟩
end
end DL
namespace DL
open PySem L2 PySem.W
section
variable {K : PySem.W.Frag} {ro : Ro} {ka k1 : Cells} {te tf : TE} {P : W → Cells → Prop} {R : Nd → Cells → Prop}
/-- [e, f], f told by a word -/
theorem evnr_l2 {d1 : D} (h1 : EvD K te ro ka (.val d1) k1) (h2 : EvR K tf ro k1 P) (hP : ∀ w k, P w k → ∃ d2, w = .val d2 ∧ R (.lst [d1, d2]) k) : EvNR K (tLst (tCons te (tCons tf tNil))) ro ka R := fun B F0 ta sg H Q e q =>
  h1 B F0 ta sg H _ e fun u H1 e1 => h2 B F0 _ sg H1 _ e1 fun w k v H2 p e2 => by
    obtain ⟨d2, rfl, r⟩ := hP w k p
    refine ⟨(by decide : 2 ≤ sizeLine), fun c hc => q _ k c _ r ?_⟩
    obtain ⟨F, g, ef⟩ := e2
    have hu := ef.tm (u, .val d1) (List.mem_cons_of_mem _ List.mem_cons_self)
    have hv := ef.tm (v, .val d2) List.mem_cons_self
    exact ⟨F, g, (ef.cell (o := .lst [u, v]) hc (n := .lst [d1, d2]) ⟨_, upd_same, u, [v], rfl, hu, v, [], rfl, hv, rfl⟩).held fun z hz => List.mem_cons_of_mem _ (List.mem_cons_of_mem _ hz)⟩
end
end DL
namespace DL
open PySem L2 PySem.W
section
variable {K : PySem.W.Frag} {B F0 : Hp} {ro : Ro} {ka k1 : Cells} {ta : List (V × W)} {te : TE} {w : W} {b : Bool} {R : Nd → Cells → Prop} {De : Ends} {u : TS}
/-- the texts of a list or tuple -/
theorem ei_strsL {t b : Bool} {ss : List Str} (h : EvD K te ro ka w k1) (l : Lk k1 w t (stD ss) b) : EvI K (iSeq K te) ro ka (ss.map fun s => W.val (.str s)) (Stay w (stD ss)) k1 := by
  have e : (stD ss).map (part b) = ss.map fun s => W.val (.str s) := by
    unfold stD
    rw [List.map_map]
    exact List.map_congr_left fun s _ => by cases b <;> rfl
  have := ei_seq h l
  rwa [e] at this
/-- a new dict, told as a whole, frozen -/
theorem EvNR.dicD {ms : List (Key × D)} (h : EvNR K te ro ka R) (hR : ∀ n k, R n k → n = .dic ms ∧ k = k1) : EvD K te ro ka (.val (.dic ms)) k1 := fun B F0 ta sg H Q e q => h B F0 ta sg H Q e fun n k a H1 r e1 => by
  obtain ⟨rfl, rfl⟩ := hR n k r
  exact q _ _ e1.freeze_k
theorem EvNR.lstD {ds : List D} (h : EvNR K te ro ka R) (hR : ∀ n k, R n k → n = .lst ds ∧ k = k1) : EvD K te ro ka (.val (.lst ds)) k1 := fun B F0 ta sg H Q e q => h B F0 ta sg H Q e fun n k a H1 r e1 => by
  obtain ⟨rfl, rfl⟩ := hR n k r
  exact q _ _ e1.freeze_l
/-- x = [.. for .. in d], d locked meanwhile -/
theorem g_asgLk {i : Nat} (h : EvNR K (tLkE te) ro ka R) (k : ∀ n k1 a, R n k1 → Gp K B F0 ta De.nx (ro.set i (some (.val (.adr a)))) (k1 ++ [(a, n)])) : Gp K B F0 ta (tLkS (tAsg te (gName i)) De) ro ka := g_asgNR (te := tLkE te) h k
theorem q_asgLk {i : Nat} (h : EvNR K (tLkE te) ro ka R) (k : ∀ n k1 a, R n k1 → Gp K B F0 ta (u De) (ro.set i (some (.val (.adr a)))) (k1 ++ [(a, n)])) : Gp K B F0 ta (tSeq (tLkS (tAsg te (gName i))) u De) ro ka := g_asgLk (De := { De with nx := u De }) h k
end
end DL
namespace DL
open PySem L2 PySem.W
section
variable {K : PySem.W.Frag} {ro : Ro} {ka k1 k2 : Cells} {ty td : TE} {P : W → Cells → Prop}
/-- text in d, d told by a word -/
theorem ev_dinR {s : Str} {bb : Bool} (h : EvD K ty ro ka (.val (.str s)) k1) (h2 : EvR K td ro k1 P) (hP : ∀ w k, P w k → k = k2 ∧ ∃ ds b, Dk k w ds b ∧ (getT ds (.inr s)).isSome = bb) : EvD K (tDIn ty td) ro ka (.val (.bl bb)) k2 := fun B F0 ta sg H Q e q =>
  h B F0 ta sg H _ e fun u H1 e1 => h2 B F0 _ sg H1 _ e1 fun w k v H2 p e2 => by
    obtain ⟨rfl, ds, b, l, hb⟩ := hP w k p
    have hu := e2.tm_str (v := u) (i := s) (List.mem_cons_of_mem _ List.mem_cons_self)
    subst hu
    obtain ⟨F, a, xs, g, ef, rfl, h3, h4⟩ := e2.dk l List.mem_cons_self
    have hx : (getT xs (.inr s)).isSome = bb := by rw [← hb, getT_isSome, getT_isSome, (rpk_pt.mp h4).any]
    refine ⟨a, getT xs (.inr s), rfl, .inl ⟨xs, .inr s, h3, rfl, rfl⟩, ?_⟩
    rw [hx]
    exact q _ _ ((e2.held (ta' := ta) fun p hp => List.mem_cons_of_mem _ (List.mem_cons_of_mem _ hp)).push_imm fun _ => rfl)
end
end DL
namespace DL
open PySem L2 PySem.W
section
variable {K : PySem.W.Frag} {ro : Ro} {ka k1 : Cells} {te tf : TE} {n : Nd} {y : W} {E : XK}
/-- f(e, e2), e a new cell, the call's end told by a word -/
theorem evr_callN {Cc : Ct} {out : Addr → Oc} (h1 : EvN K te ro ka n k1) (h2 : ∀ a, EvD K tf ro (k1 ++ [(a, n)]) y (k1 ++ [(a, n)])) (hC : ∀ a, Cc [.val (.adr a), y] [(a, n)] (out a)) (ho : ∀ a o k, out a o k → ∃ d, o = .ret d) :
    EvR K (tCall (spC K Cc) [] E (tCons te (tCons tf tNil))) ro ka (fun w k => ∃ a d k2, out a (.ret d) k2 ∧ w = .val d ∧ k = k2 ++ k1) := fun B F0 ta sg H Q e q =>
  h1 B F0 ta sg H _ e fun a H1 e1 => h2 a B F0 _ sg H1 _ (e1.tmA a) fun v H2 e2 => by
    have hp : ([(a, n)] ++ k1).Perm (k1 ++ [(a, n)]) := List.perm_append_comm
    have e3 := e2.perm hp
    refine sp_rel (kr := k1) (vs := [.ref a, v]) (ws := [.val (.adr a), y]) (ta := ta) (e3.held fun p h => ?_) rfl (hC a) (ho a) fun d k2 v' H' o e4 => q _ _ v' H' ⟨a, d, k2, o, rfl, rfl⟩ e4
    have h' : p ∈ (V.ref a, W.val (.adr a)) :: (v, y) :: ta := h
    rcases List.mem_cons.mp h' with rfl | h'
    · exact List.mem_cons_of_mem _ List.mem_cons_self
    · rcases List.mem_cons.mp h' with rfl | h'
      · exact List.mem_cons_self
      · exact List.mem_cons_of_mem _ (List.mem_cons_of_mem _ h')
end
end DL

/-! ED: d.get(k) (own work). -/
namespace DL
open PySem L2 PySem.W
section
variable {K : PySem.W.Frag} {ro : Ro} {ka k1 k2 : Cells} {td ty : TE} {w : W} {b : Bool}
/-- what a dict tells of a text: None where it has none -/
def getD? (ds : List (Key × D)) (s : Str) : D := (getT ds (.inr s)).getD .non
/-- d.get(text) -/
theorem ev_dgetN {s : Str} {ds : List (Key × D)} (h : EvD K td ro ka w k1) (l1 : Dk k1 w ds b) (h2 : EvD K ty ro k1 (.val (.str s)) k2) (l2 : Dk k2 w ds b) : EvD K (tDGet1 td ty) ro ka (part b (getD? ds s)) k2 := fun B F0 ta sg H Q e q =>
  h B F0 ta sg H _ e fun u H1 e1 => by
    obtain ⟨_, a, xs1, _, _, rfl, r1, _⟩ := e1.dk l1 List.mem_cons_self
    refine ⟨a, rfl, .inl ⟨xs1, r1⟩, h2 B F0 _ sg H1 _ e1 fun v H2 e2 => ?_⟩
    have hv := e2.tm_str (v := v) (i := s) List.mem_cons_self
    subst hv
    obtain ⟨F, a', xs, g, ef, ea, r2, rk⟩ := e2.dk l2 (List.mem_cons_of_mem _ List.mem_cons_self)
    cases ea
    have pt := (rpk_pt.mp rk).get (.inr s)
    refine ⟨getT xs (.inr s), .inl ⟨xs, .inr s, r2, rfl, rfl⟩, ?_⟩
    have back := ef.held (ta' := ta) fun p hp => List.mem_cons_of_mem _ (List.mem_cons_of_mem _ hp)
    unfold getD? at q
    cases hd : getT ds (.inr s) with
    | none =>
      rw [hd] at q
      rw [pt.1 hd]
      refine q _ _ ⟨F, g, back.push ?_⟩
      cases b <;> exact rfl
    | some d =>
      obtain ⟨x, hx, rx⟩ := pt.2 d hd
      rw [hd] at q
      rw [hx]
      exact q _ _ ⟨F, g, back.push (wok_part b rx)⟩
end
end DL

/-! EE: try with any number of except clauses, each with or without a name (own work). -/
namespace DL
open PySem L2 PySem.W PyProof.Rows

/-- the exception at a has come down in X; but for it the state is as σ, H tell -/
def Down (X : Cx) (pins : List (Addr × Obj)) (a : Addr) (cls : Value) (d : Option Addr) (σ : L2.St) (H : Hp) (s : Shared) : Prop :=
  ∃ (B : Heap) (s0 : Shared), L2.Inv X pins σ H s0 ∧ (∀ b o, s0.heap.get? b = some o → b ∉ frs X.stack → B.get? b = some o) ∧ s0.heap.UpToSlots s.heap ∧
    HandSPX.FlyingZ B (X.env :: X.outer) a (Zc cls d) s.heap ∧ H a = none ∧ s.os = s0.os ∧ AllBare s.gens
section
variable {X : Cx} {pins : List (Addr × Obj)} {a : Addr} {cls : Value} {d : Option Addr} {σ : L2.St} {H : Hp} {s : Shared}
theorem Down.inv (z : Down X pins a cls d σ H s) : L2.Inv X pins σ H s :=
  let ⟨_, _, I, nb, up, fl, _, os, ag⟩ := z
  I.landed nb fl.1 up os ag
theorem Down.obj (z : Down X pins a cls d σ H s) : ∃ (oe : Obj) (vs : Array Value), s.heap.get? a = some oe ∧ Zc cls d oe ∧ oe.data = .fields vs :=
  let ⟨_, _, _, _, _, fl, _⟩ := z
  let ⟨oe, vs, h1, h2, h3⟩ := fl.there
  ⟨oe, vs, h1, h2, h3⟩
/-- no frame's slots stand there -/
theorem Down.off (z : Down X pins a cls d σ H s) : a ∉ frs (X.env :: X.outer) := fun hm => by
  obtain ⟨oe, vs, h1, _, h3⟩ := z.obj
  obtain ⟨_, _, _, _, _, fl, _⟩ := z
  obtain ⟨_, o, h4, h5⟩ := fl.2.2.1.mem hm
  rw [h1] at h4
  cases h4
  exact h5 _ h3
/-- the state that an except suite finds -/
theorem Down.within (z : Down X pins a cls d σ H s) (hf : X.env.frame = some X.env.locals) : ∃ oe vs, oe.data = .fields vs ∧ Zc cls d oe ∧ s.heap.get? a = some oe ∧ L2.Inv (X.suite a ((a, oe) :: (X.pn ++ pins))) [] σ H s := by
  obtain ⟨oe, vs, h1, h2, h3⟩ := z.obj
  have off := z.off
  have na : H a = none := let ⟨_, _, _, _, _, _, na, _⟩ := z; na
  refine ⟨oe, vs, h3, h2, h1, z.inv.suite h1 h3 na (fun e => off ?_) fun hm => off ?_⟩
  · exact List.mem_filterMap.mpr ⟨X.env, List.mem_cons_self, by rw [hf, e]⟩
  · obtain ⟨e, he, q⟩ := List.mem_filterMap.mp hm
    exact List.mem_filterMap.mpr ⟨e, List.mem_cons_of_mem _ he, q⟩
theorem Down.again {M : Model} {A : Around} {E : Value → Shared → Prop} {Q : Unit → Shared → Prop} (z : Down X pins a cls d σ H s) (k : ∀ s', Down X pins a cls d σ H s' → Q () s') : wpAny M A (setFlight (.ref a) none) Q E s := by
  obtain ⟨B, s0, I, nb, up, fl, na, os, ag⟩ := z
  exact HandSPX.lands_againZ fl fun h' fl' up' => k _ ⟨B, s0, I, nb, up.trans up', fl', na, os, ag⟩
/-- no clause takes it -/
theorem Down.pass {W : WX} {Q : Flow → Shared → Prop} (z : Down X pins a cls d σ H s) (hs : X.stack = X.env :: X.outer) (hf : X.env.frame = some X.env.locals) (tk : Takes X W) (w : W cls d σ H) : wpAny (model X.prog X.w) X.A (handleBy (.ref a) X.env []) Q X.xe s := by
  obtain ⟨B, s0, I, nb, up, fl, na, os, ag⟩ := z
  obtain ⟨oe, vs, T, oT, ts, h1, h2, h3, h4, _⟩ := id fl.2.2.2
  have out : wpAny (model X.prog X.w) X.A (setFlight (.ref a) X.env.frame) (fun _ s4 => wpAny (model X.prog X.w) X.A (throw (.ref a) : Sem Flow) Q X.xe s4) X.xe s := by
    rw [hf]
    exact HandSPX.setFlight_upZ fl fun h' held up' => wpAny_throw (tk _ _ ⟨a, B, s0, pins, σ, H, cls, d, rfl, I, nb, up.trans up', .inr (.inr (hs ▸ held)), na, os, ag, w⟩)
  apply wpAny_handleBy_nil
  unfold PySem.passOn
  refine wpAny_bind (wpAny_field h1 h3 h4 ?_)
  have ne : ¬ (Value.ref T == Value.none) = true := by simp
  rw [if_neg ne]
  first
    | exact wpAny_bind (wpAny_pure (wpAny_bind out))
    | exact wpAny_bind out
end
/-- a clause: its class, the slot of its name, its suite -/
abbrev Cla := Value × Option Nat × (Addr → Value → Option Addr → TS)
/-- where a suite ends: its name is gone -/
def goneE (D : Ends) : Option Nat → Ends
  | none => D
  | some i => { nx := fun σ H => D.nx (σ.set i none) H, rt := D.rt, bk := fun σ H => D.bk (σ.set i none) H, ct := fun σ H => D.ct (σ.set i none) H }
def nameS (σ : L2.St) (a : Addr) : Option Nat → L2.St
  | none => σ
  | some i => σ.set i (some (.ref a))
/-- what one clause wishes: that its class tells whether it takes the exception; if so its suite's wish, else W -/
def oneCla (K : PySem.W.Frag) (D : Ends) (c : Cla) (W : WX) : WX := fun cls d σ H =>
  (exmOne K cls c.1 = some true ∧ ∀ a, H a = none → c.2.2 a cls d (goneE D c.2.1) (nameS σ a c.2.1) H) ∨ (exmOne K cls c.1 = some false ∧ W cls d σ H)
def wCla (K : PySem.W.Frag) (Wout : WX) (D : Ends) (l : List Cla) : WX := l.foldr (oneCla K D) Wout
/-- these clauses deal with whatever W lets come down -/
def Deals (X : Cx) (D : Ends) (hds : List ExceptHandler) (W : WX) : Prop := ∀ (pins : List (Addr × Obj)) (a : Addr) (cls : Value) (d : Option Addr) (σ : L2.St) (H : Hp) (s : Shared),
  Down X pins a cls d σ H s → W cls d σ H → wpAny (model X.prog X.w) X.A (handleBy (.ref a) X.env hds) (SP X pins D) X.xe s
/-- a suite keeps its wish -/
def SuiteOk (X : Cx) (b0 : Stmt) (suite : List Stmt) (ts : Addr → Value → Option Addr → TS) : Prop :=
  ∀ (a : Addr) (oe : Obj) (cls : Value) (d : Option Addr) (pn : List (Addr × Obj)), Zc cls d oe → (∃ vs, oe.data = .fields vs) → PSs (X.suite a ((a, oe) :: pn)) (b0 :: suite) (ts a cls d)
section
variable {X : Cx} {pins : List (Addr × Obj)} {a : Addr} {cls : Value} {d : Option Addr} {σ : L2.St} {H : Hp} {s : Shared} {D : Ends} {Wout W : WX} {f : Flow}
theorem Deals.nil (hs : X.stack = X.env :: X.outer) (hf : X.env.frame = some X.env.locals) (tk : Takes X Wout) : Deals X D [] Wout := fun _ _ _ _ _ _ _ z w => z.pass hs hf tk w
/-- the end of a suite without a name, seen from outside -/
theorem SP.outward {q0 : List (Addr × Obj)} {X' : Cx} (e : SP X' q0 D f s) (k : ∀ σ1 H1, L2.Inv X' q0 σ1 H1 s → L2.Inv X pins σ1 H1 s) : SP X pins D f s := by
  rcases f with _ | _ | _ | u
  · obtain ⟨σ1, H1, J, y⟩ := e
    exact ⟨σ1, H1, k _ _ J, y⟩
  · obtain ⟨σ1, H1, J, y⟩ := e
    exact ⟨σ1, H1, k _ _ J, y⟩
  · obtain ⟨σ1, H1, J, y⟩ := e
    exact ⟨σ1, H1, k _ _ J, y⟩
  · obtain ⟨v, σ1, H1, J, y⟩ := e
    exact ⟨v, σ1, H1, k _ _ J, y⟩
/-- a clause's class, looked up where the suite will stand -/
theorem Down.class_read (z : Down X pins a cls d σ H s) (hf : X.env.frame = some X.env.locals) {x : Str} {c : Value} {p : Pos} (hc : Names X x c) {Q : Value → Shared → Prop} {E : Value → Shared → Prop} (k : Q c s) :
    wpAny (model X.prog X.w) (X.A.mark (some (.ref a))) (eval (.Name x p) X.env) Q E s := by
  obtain ⟨oe, vs, _, _, _, S⟩ := z.within hf
  obtain ⟨g, nd, m | ⟨m, v, nn⟩⟩ := hc
  · exact ld_glob (X := X.suite a ((a, oe) :: (X.pn ++ pins))) S g m k nd
  · exact ld_blt (X := X.suite a ((a, oe) :: (X.pn ++ pins))) S g m v k nn nd
/-- does the class at c take it? -/
theorem Down.asked (z : Down X pins a cls d σ H s) {c : Value} {b : Bool} (h : exmOne X.K cls c = some b) : PySem.W.Looks (model X.prog X.w) s.heap (excMatches (.ref a) c) b :=
  PySem.W.exm_one z.inv.kIn (fun A Q E s' kp q => by
    obtain ⟨oe, vs, at_, zc, _⟩ := z.obj
    exact wpAny_typeOf_ref (kp _ _ at_) (zc.1.symm ▸ q)) h
theorem Deals.plain (hf : X.env.frame = some X.env.locals) {x : Str} {c : Value} {ts : Addr → Value → Option Addr → TS} {b0 : Stmt} {suite : List Stmt} {p q : Pos} {hds : List ExceptHandler} (hc : Names X x c) (ok : SuiteOk X b0 suite ts) (rest : Deals X D hds W) :
    Deals X D (.ExceptHandler (some (.Name x p)) none (b0 :: suite) q :: hds) (oneCla X.K D (c, none, ts) W) := fun pins a cls d σ H s z w => by
  refine wpAny_handleBy_cons (codeAny_handlers_test (z.class_read hf hc ?_)) (fun e => by cases e)
  rcases w with ⟨hb, w⟩ | ⟨hb, w⟩ <;> refine (z.asked hb).here ?_
  · refine codeAny_handlers_suite (z.again fun s1 z1 => ?_)
    obtain ⟨oe, vs, dat, zc, _, S⟩ := z1.within hf
    have na : H a = none := z.elim fun _ r => r.elim fun _ r => r.2.2.2.2.1
    exact wpAny_mono ((ok a oe cls d (X.pn ++ pins) zc ⟨_, dat⟩).run [] s1 σ H D S (w a na)) (fun g s2 e => SP.outward e fun _ _ J => J.unsuite z.inv.ok) fun _ _ z => z.elim
  · exact rest pins a cls d σ H s z w
theorem Deals.named (hf : X.env.frame = some X.env.locals) (hN : X.N.Nodup) {x n : Str} {c : Value} {i : Nat} {ts : Addr → Value → Option Addr → TS} {b0 : Stmt} {suite : List Stmt} {p q : Pos} {hds : List ExceptHandler} (hc : Names X x c) (hi : X.N[i]? = some n) (hl : X.env.kindOf n = some .local)
    (ok : SuiteOk X b0 suite ts) (rest : Deals X D hds W) : Deals X D (.ExceptHandler (some (.Name x p)) (some n) (b0 :: suite) q :: hds) (oneCla X.K D (c, some i, ts) W) := fun pins a cls d σ H s z w => by
  refine wpAny_handleBy_cons (codeAny_handlers_test (z.class_read hf hc ?_)) (fun e => by cases e)
  rcases w with ⟨hb, w⟩ | ⟨hb, w⟩ <;> refine (z.asked hb).here ?_
  · refine codeAny_handlers_suite_as (z.again fun s1 z1 => ?_)
    obtain ⟨oe, vs, dat, zc, _, S⟩ := z1.within hf
    have na : H a = none := z.elim fun _ r => r.elim fun _ r => r.2.2.2.2.1
    refine store_ok (X := X.suite a ((a, oe) :: (X.pn ++ pins))) (v := .ref a) S hN hi (.inl hl) rfl (fun s2 S2 => ?_) (.inr hl)
    refine wpAny_mono ((ok a oe cls d (X.pn ++ pins) zc ⟨_, dat⟩).run [] s2 _ H (goneE D (some i)) S2 (w a na)) (fun g s3 e => ?_) fun _ _ z => z.elim
    rcases g with _ | _ | _ | u
    · obtain ⟨σ1, H1, J, y⟩ := e
      exact gone_ok (J.unsuite z.inv.ok) hN hi hl fun s4 J4 => ⟨_, H1, J4, y⟩
    · obtain ⟨σ1, H1, J, y⟩ := e
      exact gone_ok (J.unsuite z.inv.ok) hN hi hl fun s4 J4 => ⟨_, H1, J4, y⟩
    · obtain ⟨σ1, H1, J, y⟩ := e
      exact gone_ok (J.unsuite z.inv.ok) hN hi hl fun s4 J4 => ⟨_, H1, J4, y⟩
    · obtain ⟨v, σ1, H1, J, y⟩ := e
      exact gone_ok (J.unsuite z.inv.ok) hN hi hl fun s4 J4 => ⟨v, _, H1, J4, y⟩
  · exact rest pins a cls d σ H s z w
end
section
variable {X : Cx} {body : List Stmt} {h0 : ExceptHandler} {hds : List ExceptHandler} {l : List Cla} {pos : Pos} {tb : WX → TS} {Wout : WX}
/-- try: body, except .., except .. as .. -/
theorem ps_tryC (hs : X.stack = X.env :: X.outer) (hf : X.env.frame = some X.env.locals) (tk : Takes X Wout)
    (hb : ∀ (W : WX) (pn : List (Addr × Obj)) (xe : Value → Shared → Prop), Takes (X.tr pn xe) W → PassesOwn (model X.prog X.w) X.A X.env xe → PSs (X.tr pn xe) body (tb W))
    (hh : ∀ D, Deals X D [] Wout → Deals X D (h0 :: hds) (wCla X.K Wout D l)) : PS X (.Try body (h0 :: hds) [] [] pos) (fun D σ H => tb (wCla X.K Wout D l) D σ H) where
  run pins s σ H D I h := by
    have ok := I.ok
    have hfr : X.A.frames = some (X.env :: X.outer) := ok.frames.trans (congrArg some hs)
    apply wpAny_Try_except
    let xe : Value → Shared → Prop := fun e s1 => wpAny (model X.prog X.w) X.A (noteFrame e X.env) (fun _ s2 => wpAny (model X.prog X.w) X.A (setFlight e none) (fun _ s3 =>
      wpAny (model X.prog X.w) X.A (handleBy e X.env (h0 :: hds)) (SP X pins D) X.xe s3) X.xe s2) X.xe s1
    have catches : Takes (X.tr (X.pn ++ pins) xe) (wCla X.K Wout D l) := by
      rintro _ s' ⟨a, B, s0, pins', σ', H', cls, d, rfl, J, nb, up, sky, na, os, ag, w⟩
      have sky' : Sky B (X.env :: X.outer) a (Zc cls d) X.env.locals s'.heap := hs ▸ sky
      exact Sky.land Zc.steady hfr hf sky' fun h3 fl up3 => hh D (.nil hs hf tk) _ _ _ _ _ _ _ ⟨B, s0, J.ofTry ok, nb, up.trans up3, fl, na, os, ag⟩ w
    refine wpAny_mono ((hb _ (X.pn ++ pins) xe catches PassesOwn.looking).run [] s σ H D (I.toTry _) h) (fun f s1 e => ?_) fun _ _ z => z
    have back := SP.outward (X := X) (pins := pins) e fun _ _ J => J.ofTry ok
    cases f with
    | next => exact wpAny_execs_nil back
    | ret u => exact back
    | brk => exact back
    | cont => exact back
end
end DL

/-! EF: what several clauses do with an exception, by data (own work). -/
namespace DL
open PySem L2 PySem.W
/-- of the clauses l the one with oi, ts takes an exception of C1 -/
inductive Hit (K : PySem.W.Frag) (C1 : Addr) : List Cla → Option Nat → (Addr → Value → Option Addr → TS) → Prop
  | here {c : Value} {oi : Option Nat} {ts : Addr → Value → Option Addr → TS} {r : List Cla} (h : exmOne K (.ref C1) c = some true) : Hit K C1 ((c, oi, ts) :: r) oi ts
  | next {c : Value} {oi oj : Option Nat} {ts us : Addr → Value → Option Addr → TS} {r : List Cla} (h : exmOne K (.ref C1) c = some false) (k : Hit K C1 r oi ts) : Hit K C1 ((c, oj, us) :: r) oi ts
/-- the slots of a suite: the exception's name alone is told -/
def suiteR (n : Nat) (a : Addr) : Option Nat → Ro
  | none => List.replicate n none
  | some i => (List.replicate n none).set i (some (.val (.adr a)))
section
variable {K : PySem.W.Frag} {B F0 : Hp} {ro : Ro} {ka k1 k2 k3 kr : Cells} {ta : List (V × W)} {sg : L2.St} {H : Hp} {te tf : TE} {tr : TA} {C C1 : Addr} {gs : List (Str × D)} {E : XK} {De De' : Ends} {dx : Option Addr} {l : List Cla} {oi : Option Nat} {ts : Addr → Value → Option Addr → TS} {Wout : WX} {u : TS}
theorem En.wiped (e : En K B F0 ro ka ta sg H) {σ : L2.St} (h : σ.length = ro.length) : En K B F0 (List.replicate ro.length none) ka ta σ H :=
  let ⟨F, g, q⟩ := e
  ⟨F, g, q.frame (by rw [List.length_replicate, h]) fun i w z => by rw [List.getElem?_replicate] at z; split at z <;> cases z⟩
theorem hit_wish {D : Ends} {σ : L2.St} (hit : Hit K C1 l oi ts) (h : ∀ a, ts a (.ref C1) dx (goneE D oi) (nameS σ a oi) H) : wCla K Wout D l (.ref C1) dx σ H := by
  induction hit with
  | here hx => exact .inl ⟨hx, fun a _ => h a⟩
  | next hx _ ih => exact .inr ⟨hx, ih h⟩
theorem xw_cla (hit : Hit K C1 l oi ts) (h : ∀ a, Gp K B F0 ta (ts a (.ref C1) dx (goneE De oi)) (suiteR ro.length a oi) ka) (e : En K B F0 ro ka ta sg H) : XW ro.length (wCla K Wout De l) (.ref C1) dx H := fun σ hσ =>
  hit_wish hit fun a => by
    have e2 := e.wiped hσ
    cases oi with
    | none => exact h a σ H e2
    | some i => exact h a _ H (e2.setA i a)
/-- return of what raises an error with fields, caught -/
theorem g_retY (h : EvX K te ro ka (XW ro.length (wCla K Wout De l)) C1 gs k2) (hit : Hit K C1 l oi ts) (hs : ∀ a dx, Gp K B F0 ta (ts a (.ref C1) (some dx) (goneE De oi)) (suiteR ro.length a oi) (k2 ++ [(dx, .xd gs)])) : Gp K B F0 ta (tRet te De') ro ka := fun sg H e =>
  h B F0 ta sg H _ e fun dx H' e' => xw_cla hit (fun a => hs a dx) e'
/-- the same as a statement -/
theorem g_dropY (h : EvX K te ro ka (XW ro.length (wCla K Wout De l)) C1 gs k2) (hit : Hit K C1 l oi ts) (hs : ∀ a dx, Gp K B F0 ta (ts a (.ref C1) (some dx) (goneE De oi)) (suiteR ro.length a oi) (k2 ++ [(dx, .xd gs)])) : Gp K B F0 ta (tDrop te De') ro ka := fun sg H e =>
  h B F0 ta sg H _ e fun dx H' e' => xw_cla hit (fun a => hs a dx) e'
/-- te ends with an error without fields -/
def EvX0 (K : PySem.W.Frag) (te : TE) (ro : Ro) (ka : Cells) (E : XK) (C1 : Addr) (k2 : Cells) : Prop := ∀ B F0 ta sg H (Q : VK), En K B F0 ro ka ta sg H → (∀ H', En K B F0 ro k2 ta sg H' → E (.ref C1) none H') → te sg H Q
theorem evx0_call {Cc : Ct} {ws : List W} {E' : XK} (ha : EvA K tr ro ka ws (k2 ++ kr)) (hC : Cc ws k2 (X0 C1 k3)) (hE : E' = E) : EvX0 K (tCall (spC K Cc) [] E' tr) ro ka E C1 (k3 ++ kr) := fun B F0 ta sg H Q e q => by
  subst hE
  refine ha B F0 ta sg H _ e fun vs H1 hl e1 => ?_
  rw [List.append_nil]
  exact sp_exc0 e1 hl hC (fun _ _ z => z) fun H' e3 => q H' e3
theorem g_retY0 (h : EvX0 K te ro ka (XW ro.length (wCla K Wout De l)) C1 k2) (hit : Hit K C1 l oi ts) (hs : ∀ a, Gp K B F0 ta (ts a (.ref C1) none (goneE De oi)) (suiteR ro.length a oi) k2) : Gp K B F0 ta (tRet te De') ro ka := fun sg H e =>
  h B F0 ta sg H _ e fun H' e' => xw_cla hit hs e'
end
end DL

/-! EG: enumerate of lists (own work). -/
namespace DL
open PySem L2 PySem.W
section
variable {K : PySem.W.Frag} {ro : Ro} {ka k1 : Cells} {te : TE} {w : W}
/-- for i, x in enumerate(xs): the pairs -/
def enumD (ds : List D) : List D := (List.range ds.length).map fun i : Nat => .tup [.int (i : Int), ds.getD i .non]
theorem ei_enum {ds : List D} (h : EvD K te ro ka w k1) (l : Lk k1 w false ds false) : EvI K (iEnum K (tCons te tNil)) ro ka ((List.range ds.length).map fun i : Nat => W.val (.tup [.int (i : Int), ds.getD i .non])) (Stay w ds) k1 := fun B F0 ta sg H R e q =>
  h B F0 ta sg H _ e fun v H1 e1 => by
    have again : ∀ (a : Addr) ro2 ka2 ta2 sg2 H2, Stay w ds ka2 → (V.ref a, w) ∈ ta2 → En K B F0 ro2 ka2 ta2 sg2 H2 → ∃ F ys, EnF K B F ro2 ka2 ta2 sg2 H2 ∧ Gr B F0 F ∧ SqL K H2 a ys ∧ RpL K F ds ys := fun a ro2 ka2 ta2 sg2 H2 hs hm e2 => by
      obtain ⟨F, g, ef⟩ := e2
      obtain ⟨b, ys, eb, s2, r2⟩ := (l.mono ka2 hs).get ef (ef.tm _ hm)
      cases eb
      exact ⟨F, ys, ef, g, .inl s2, r2⟩
    obtain ⟨F, g, ef⟩ := id e1
    obtain ⟨a, xs, rfl, s1, r1⟩ := l.get ef (ef.tm _ List.mem_cons_self)
    refine ⟨a, xs, rfl, .inl s1, q _ ((.ref a, w) :: ta) H1 (fun p hp => List.mem_cons_of_mem _ hp) e1 (fun i w2 ro2 ka2 ta2 sg2 H2 hw hs hm e2 => ?_) fun i ro2 ka2 ta2 sg2 H2 hi hs hm e2 => ?_⟩
    · obtain ⟨F2, ys, ef2, g2, s2, r2⟩ := again a ro2 ka2 ta2 sg2 H2 hs (hm _ List.mem_cons_self) e2
      rw [List.getElem?_map] at hw
      obtain ⟨i', hi', rfl⟩ := Option.map_eq_some_iff.mp hw
      obtain ⟨hi1, hi2⟩ := List.getElem?_eq_some_iff.mp hi'
      rw [List.getElem_range] at hi2
      subst hi2
      rw [List.length_range] at hi1
      have hd : ds[i]? = some ds[i] := List.getElem?_eq_getElem hi1
      have hg : ds.getD i .non = ds[i] := by rw [List.getD_eq_getElem?_getD, hd]; rfl
      obtain ⟨y, hy, ry⟩ := rpl_get r2 hd
      refine ⟨⟨ys, y, s2, hy⟩, fun x H3 ⟨T, x', ex, hT, eH, hx⟩ => ?_⟩
      subst ex eH
      have h5 := hx ys s2
      rw [hy] at h5
      cases h5
      obtain ⟨e4, g4⟩ := ef2.lay (o := .tup [.int (i : Nat), y]) hT rfl
      refine ⟨_, g2.trans g4, e4.push ⟨T, _, rfl, .inl (.inl upd_same), ?_⟩⟩
      rw [hg]
      exact ⟨_, _, rfl, rfl, y, [], rfl, Rp.mono g4.sub.exz ef2.nz _ _ ry, rfl⟩
    · obtain ⟨F2, ys, ef2, g2, s2, r2⟩ := again a ro2 ka2 ta2 sg2 H2 hs (hm _ List.mem_cons_self) e2
      rw [List.length_map, List.length_range] at hi
      exact ⟨ys, s2, by rw [rpl_len r2]; exact hi⟩
end
end DL

namespace DL
open PySem L2 PySem.W
theorem at_last {β : Type} {xs : List β} {x : β} (h : xs.getLast? = some x) : atI xs (-1) = some x := by
  rw [List.getLast?_eq_getElem?] at h
  have hlt := (List.getElem?_eq_some_iff.mp h).1
  unfold atI ixN
  rw [if_neg (by decide), if_pos (by omega)]
  show xs[((-1 : Int) + (xs.length : Int)).toNat]? = some x
  rw [show ((-1 : Int) + (xs.length : Int)).toNat = xs.length - 1 by omega]
  exact h
theorem cut_mid {β : Type} {xs : List β} {i j : Nat} (hj : j ≤ xs.length) (hi : i ≤ j) : cutD xs (some (i : Int)) (some (j : Int)) = (xs.drop i).take (j - i) := by
  unfold cutD
  rw [HT.sIx_nat, HT.sIx_nat, Nat.min_eq_left hj, Nat.min_eq_left (by omega)]
end DL

/-! EH: for loops of the hand layer out of the library's Goes: what an iterator hands out, told once, serves every caller (own work). -/
namespace DL
open PySem L2 PySem.W PyProof.Rows
/-- enumerate(v) for whatever begins with an iterator of its own -/
abbrev enumAt (i : Addr) : Obj := { cls := .type "enumerate", data := .fields #[.none, .bool false, .ref i, rawInt 0, .none, .none] }
theorem enum_new {v : Value} {o : Obj} {G : Heap → Prop} (B : Begins v o G) : Meets (Builtin.«enumerate.__new__» ⟨[.type "enumerate", v], []⟩)
    (fun _ R s => G s.heap ∧ R (.ok (.ret (.ref (s.heap.push o).objs.size))) { s with heap := (s.heap.push o).push (enumAt s.heap.objs.size) }) :=
  .of_wp fun prog w A R s ⟨g, h⟩ => by
    have own := sub_enumerate
    have go : ∀ {A' : Around} {E Q : Value → Shared → Prop}, Q (.ref s.heap.objs.size) { s with heap := s.heap.push o } → wpAny (model prog w) A' (pyIter v) Q E s := B.iter prog w _ _ s _ g
    wp_walk using go
    refine wpAny_stack_any fun _ => wpAny_pure ?_
    split
    all_goals try (rename_i c _ _ _ _ _; cases c == Value.type "enumerate")
    all_goals
      wp_walk using go
      exact ⟨_, rfl, h⟩
/-- the two new objects: the iterator, the count over it -/
theorem enum_called {prog : Program} {w : World} {A : Around} {E Q : Value → Shared → Prop} {s : Shared} {v : Value} {o : Obj} {G : Heap → Prop} (B : Begins v o G) (g : G s.heap)
    (h : ∀ n h', n = s.heap.objs.size → IsEnum h' (n + 1) n 0 .none → h'.get? n = some o → (∀ b ob, s.heap.get? b = some ob → h'.get? b = some ob) → Q (.ref (n + 1)) { s with heap := h' }) : wpAny (model prog w) A (call (.type "enumerate") [v]) Q E s := by
  apply callType_new F.called_enumerate (by decide) (F.typeCall_enumerate_1 _) (F.newCall_enumerate_1 _) (fun obj => F.args_object_init_2 obj _) F.entry_enumerate_new (enum_new B)
  have at1 : ((s.heap.push o).push (enumAt s.heap.objs.size)).get? (s.heap.objs.size + 1) = some (enumAt s.heap.objs.size) := by
    rw [← Heap.size_push]
    exact Heap.get?_push_size _ rfl
  have fin := h _ _ rfl at1 (Heap.get?_push_of_some _ (Heap.get?_push_size _ B.free)) fun b ob y => Heap.get?_push_of_some _ (Heap.get?_push_of_some _ y)
  rw [← Heap.size_push (o := o)] at fin at1
  exact ⟨g, ⟨_, at1, rfl⟩, fin⟩
end DL

/-! EI: nothing of its own (kept for the order of the parts). -/

/-! EJ: for i, x in enumerate(t), t a tuple: the library's GoesN over its Draws.tuple, told for the hand layer (own work). -/
namespace DL
open PySem L2 PySem.W PyProof.Rows
/-- each item in a new pair -/
def IteT (K : PySem.W.Frag) (a : Addr) : It where
  go i H := ∃ xs x, SqT K H a xs ∧ xs[i]? = some x
  yld i H v H' := ∃ T x, v = .ref T ∧ H T = none ∧ H' = upd H T (.tup [.int (i : Nat), x]) ∧ ∀ xs, SqT K H a xs → xs[i]? = some x
  stop i H := ∃ xs, SqT K H a xs ∧ xs.length ≤ i
/-- what stands at turn i: the count, the iterator; the three lie apart -/
structure EnT (a e it : Addr) (i : Nat) (h : Heap) : Prop where
  en : ∃ old, IsEnum h e it (0 + (i : Int)) old
  itr : h.IsTupleIter it a i
  apart : e ≠ it ∧ a ≠ it ∧ a ≠ e
namespace EnT
variable {a e it : Addr} {i : Nat} {h : Heap}
theorem cells (z : EnT a e it i h) : ∀ b ∈ [e, it], ∃ o, h.get? b = some o ∧ ∀ v, o.data ≠ .cell v := by
  obtain ⟨⟨_, x⟩, ⟨o, y, _, d⟩, _⟩ := z
  simp only [List.forall_mem_cons, List.not_mem_nil, false_imp_iff, implies_true, and_true]
  exact ⟨⟨_, x, fun _ c => nomatch c⟩, o, y, fun _ c => nomatch d.symm.trans c⟩
theorem le (z : EnT a e it i h) {b T : Addr} (hb : b ∈ [e, it]) (hT : h.objs.size ≤ T) : b ≠ T := fun q =>
  let ⟨_, y, _⟩ := z.cells b hb
  Nat.lt_irrefl _ (Nat.lt_of_lt_of_le (q ▸ Heap.lt_size y) hT)
theorem out (z : EnT a e it i h) : e ∉ [it, a] := by
  have := z.apart
  simp only [List.mem_cons, List.not_mem_nil, or_false, not_or]
  exact ⟨this.1, this.2.2.symm⟩
end EnT
theorem turn_enumT {P : Program} {w : World} {K : PySem.W.Frag} {es : List Expr} {k : Nat} {p : Pos} (a e it : Addr) : Turn P w K (.Tuple es k p) (IteT K a) [e, it] e (EnT a e it) where
  mem := List.mem_cons_self
  obj := fun _ _ z => z.cells
  keep := fun i h h' z same => ⟨z.en.imp fun _ y => same _ List.mem_cons_self _ y, z.itr.at (same _ (List.mem_cons_of_mem _ List.mem_cons_self)), z.apart⟩
  self := fun _ _ _ _ _ z q => z.en.elim fun _ y => wpAny_pyIter_enum y q
  item := by
    rintro X rfl rfl rfl hc i pins s σ H E I off z ⟨xs, x, hq, hx⟩
    obtain ⟨its, vals, tup, _⟩ := I.tuple hq
    obtain ⟨u, hu, ru⟩ := vals.get hx
    have here : its.toArray[i]? = some u := by rw [List.getElem?_toArray]; exact hu
    refine (GoesN.enumFrom (elts := es) (x1 := k) (pos := p) 0 (Draws.tuple (A := X.A.in1) (I.ok.hd hc) it a z.apart.2.1 its.toArray) e z.apart.1 z.out List.mem_cons_self).goes i s _ E (Array.getElem?_eq_some_iff.mp here).1 ⟨z.en, z.itr, tup⟩ ?_
    rintro _ h' tk ⟨T, t, y, rfl, hT, hy, made⟩ ⟨en', itr', _⟩ kept _
    cases here.symm.trans hy
    rw [Int.zero_add] at made
    have new : ObjOk X.prog X.w (upd H T (.tup [.int (i : Nat), x])) h' T (.tup [.int (i : Nat), x]) := ⟨Nat.le_of_ble_eq_true rfl, [.int i t, u], .cons ⟨t, rfl⟩ (.cons ru .nil), made⟩
    exact ⟨.ref T, _, I.turnedNew kept off hT new, rfl, ⟨T, x, rfl, I.hok.fresh hT, rfl, fun ys hy => I.tuple_inj hy hq ▸ hx⟩, ⟨en', itr', z.apart⟩, fun b hb => (upd_ne (z.le hb hT)).trans (off b hb).1⟩
  done := by
    rintro X rfl rfl rfl hc i pins s σ H E I off z ⟨xs, hq, hx⟩
    obtain ⟨its, vals, tup, _⟩ := I.tuple hq
    have none_ : its.toArray[i]? = none := Array.getElem?_eq_none (by rw [List.size_toArray, ← vals.length]; exact hx)
    have D : Draws X.prog X.w X.A.in1 it [it, a] i (fun _ _ => True) (fun j h => j = i ∧ h.IsTupleIter it a i ∧ h.IsTuple a its.toArray) :=
      { live := fun _ _ z => z.2.1.elim fun o q => ⟨o, q.1⟩
        frame := fun j h h' z keep => ⟨z.1, z.2.1.at (keep it List.mem_cons_self), z.2.2.at (keep a (List.mem_cons_of_mem _ List.mem_cons_self))⟩
        item := fun j s Q E hj z _ => absurd z.1 (Nat.ne_of_lt hj)
        done := fun s Q E z hE => wpAny_nextOf_tuple_end (I.ok.hd hc) z.2.1 z.2.2 none_ hE }
    obtain ⟨old, en⟩ := z.en
    obtain ⟨f0, f1, _, f3, f4, f5⟩ := off it (List.mem_cons_of_mem _ List.mem_cons_self)
    exact wpAny_pyNext_enum_endD D en ⟨rfl, z.itr, tup⟩ fun h' kept => ⟨rfl, I.turned (t' := s.toks) (fun b o hb q => kept b o hb q) f0 f1 f3 f4 f5⟩
def iEnumT (K : PySem.W.Frag) (ta : TA) : TI := fun σ H R => ta σ H fun vs H1 => ∃ a xs, vs = [.ref a] ∧ SqT K H1 a xs ∧ R (IteT K a) H1
theorem pi_enumT {X : Cx} {e : Expr} {ta : TA} {p pos tpos : Pos} {elts : List Expr} {kk : Nat} (hg : Gl X "enumerate") (hm : X.mg "enumerate" = none) (ha : PA X [e] ta) (hs : starEach [e] X.env = [(false, eval e X.env)] := by rfl) :
    PI X (.Tuple elts kk tpos) (.Call (.Name "enumerate" p) [e] [] pos) (iEnumT X.K ta) where
  run pins s σ H R I h := by
    apply Call_ (ld_blt I hg hm boot_enumerate (callWith_type1 (thn (ha.run pos pins s σ H _ I h) ?_) hs rfl))
    rintro us s1 ⟨vs, H1, I1, rv, a, xs, rfl, hq, q⟩
    obtain ⟨_, rfl, ⟨⟩⟩ := vals1 rv
    obtain ⟨its, _, tup, _⟩ := I1.tuple hq
    refine enum_called (begins_tuple a its.toArray) tup fun n h' hn en iter keep => wpAny_pyIter_enum en ?_
    have below : a < n := hn ▸ tup.elim fun _ z => Heap.lt_size z.1
    have new_ : ∀ b, s1.heap.objs.size ≤ b → FpOk X pins H1 b := fun b ge => I1.fpOk ge (I1.hok.fresh ge)
    have ge_of : ∀ b ∈ [n + 1, n], FpOk X pins H1 b := List.forall_mem_cons.mpr ⟨new_ _ (Nat.le_succ_of_le (Nat.le_of_eq hn.symm)), List.forall_mem_singleton.mpr (new_ _ (Nat.le_of_eq hn.symm))⟩
    exact ⟨n + 1, [n + 1, n], EnT a (n + 1) n, IteT X.K a, H1, rfl, I1.kept (t' := s1.toks) keep, turn_enumT a (n + 1) n,
      ⟨⟨_, en⟩, ⟨_, iter, rfl, rfl⟩, Nat.succ_ne_self n, Nat.ne_of_lt below, Nat.ne_of_lt (Nat.lt_succ_of_lt below)⟩,
      fun b hb => ge_of b hb, q⟩
end DL

/-! EK: enumerate of lists and tuples alike (own work). -/
namespace DL
open PySem L2 PySem.W
/-- enumerate, of a list or of a tuple -/
def iEnumU (K : PySem.W.Frag) (ta : TA) : TI := fun sg H R => iEnum K ta sg H R ∨ iEnumT K ta sg H R
theorem pi_enumU {X : Cx} {e : Expr} {ta : TA} {p pos tpos : Pos} {elts : List Expr} {kk : Nat} (hg : Gl X "enumerate") (hm : X.mg "enumerate" = none) (ha : PA X [e] ta) (hs : starEach [e] X.env = [(false, eval e X.env)] := by rfl) :
    PI X (.Tuple elts kk tpos) (.Call (.Name "enumerate" p) [e] [] pos) (iEnumU X.K ta) :=
  ⟨fun pins s sg H R I h => h.elim ((pi_enum hg hm ha hs).run pins s sg H R I) ((pi_enumT hg hm ha hs).run pins s sg H R I)⟩
section
variable {K : PySem.W.Frag} {ro : Ro} {ka k1 : Cells} {te : TE} {w : W}
theorem ei_enumT {ds : List D} (h : EvD K te ro ka (.val (.tup ds)) k1) : EvI K (iEnumT K (tCons te tNil)) ro ka ((List.range ds.length).map fun i : Nat => W.val (.tup [.int (i : Int), ds.getD i .non])) (fun _ => True) k1 := fun B F0 ta sg H R e q =>
  h B F0 ta sg H _ e fun v H1 e1 => by
    have again : ∀ (a : Addr) ro2 ka2 ta2 sg2 H2, (V.ref a, W.val (.tup ds)) ∈ ta2 → En K B F0 ro2 ka2 ta2 sg2 H2 → ∃ F ys, EnF K B F ro2 ka2 ta2 sg2 H2 ∧ Gr B F0 F ∧ SqT K H2 a ys ∧ RpL K F ds ys := fun a ro2 ka2 ta2 sg2 H2 hm e2 => by
      obtain ⟨F, g, ef⟩ := e2
      obtain ⟨b, ys, eb, s2, r2⟩ := Lk.vt.get ef (ef.tm _ hm)
      cases eb
      exact ⟨F, ys, ef, g, s2, r2⟩
    obtain ⟨F, g, ef⟩ := id e1
    obtain ⟨a, xs, rfl, s1, r1⟩ := Lk.vt.get ef (ef.tm _ List.mem_cons_self)
    refine ⟨a, xs, rfl, s1, q _ ((.ref a, W.val (.tup ds)) :: ta) H1 (fun p hp => List.mem_cons_of_mem _ hp) e1 (fun i w2 ro2 ka2 ta2 sg2 H2 hw hs hm e2 => ?_) fun i ro2 ka2 ta2 sg2 H2 hi hs hm e2 => ?_⟩
    · obtain ⟨F2, ys, ef2, g2, s2, r2⟩ := again a ro2 ka2 ta2 sg2 H2 (hm _ List.mem_cons_self) e2
      rw [List.getElem?_map] at hw
      obtain ⟨i', hi', rfl⟩ := Option.map_eq_some_iff.mp hw
      obtain ⟨hi1, hi2⟩ := List.getElem?_eq_some_iff.mp hi'
      rw [List.getElem_range] at hi2
      subst hi2
      rw [List.length_range] at hi1
      have hd : ds[i]? = some ds[i] := List.getElem?_eq_getElem hi1
      have hg : ds.getD i .non = ds[i] := by rw [List.getD_eq_getElem?_getD, hd]; rfl
      obtain ⟨y, hy, ry⟩ := rpl_get r2 hd
      refine ⟨⟨ys, y, s2, hy⟩, fun x H3 ⟨T, x', ex, hT, eH, hx⟩ => ?_⟩
      subst ex eH
      have h5 := hx ys s2
      rw [hy] at h5
      cases h5
      obtain ⟨e4, g4⟩ := ef2.lay (o := .tup [.int (i : Nat), y]) hT rfl
      refine ⟨_, g2.trans g4, e4.push ⟨T, _, rfl, .inl (.inl upd_same), ?_⟩⟩
      rw [hg]
      exact ⟨_, _, rfl, rfl, y, [], rfl, Rp.mono g4.sub.exz ef2.nz _ _ ry, rfl⟩
    · obtain ⟨F2, ys, ef2, g2, s2, r2⟩ := again a ro2 ka2 ta2 sg2 H2 (hm _ List.mem_cons_self) e2
      rw [List.length_map, List.length_range] at hi
      exact ⟨ys, s2, by rw [rpl_len r2]; exact hi⟩
theorem ei_orL {w1 w2 : TI} {ws : List W} {C : Cells → Prop} (h : EvI K w1 ro ka ws C k1) : EvI K (fun sg H R => w1 sg H R ∨ w2 sg H R) ro ka ws C k1 := fun B F0 ta sg H R e q => .inl (h B F0 ta sg H R e q)
theorem ei_orR {w1 w2 : TI} {ws : List W} {C : Cells → Prop} (h : EvI K w2 ro ka ws C k1) : EvI K (fun sg H R => w1 sg H R ∨ w2 sg H R) ro ka ws C k1 := fun B F0 ta sg H R e q => .inr (h B F0 ta sg H R e q)
/-- frozen lists, list cells, tuples -/
theorem ei_enumU {t : Bool} {ds : List D} (h : EvD K te ro ka w k1) (l : Lk k1 w t ds false) : EvI K (iEnumU K (tCons te tNil)) ro ka ((List.range ds.length).map fun i : Nat => W.val (.tup [.int (i : Int), ds.getD i .non])) (Stay w ds) k1 := by
  cases t with
  | false => exact ei_orL (ei_enum h l)
  | true =>
    cases l
    exact ei_orR (ei_enumT h)
end
end DL
namespace DL
open PySem L2 PySem.W
section
variable {K : PySem.W.Frag} {B F0 : Hp} {ro : Ro} {ka : Cells} {ta : List (V × W)} {De : Ends} {t u : TS}
/-- a statement whose ends meet under a word -/
theorem q_meet (Inv : Ro → Cells → Prop) (h : ∀ nx, (∀ ro2 ka2, Inv ro2 ka2 → Gp K B F0 ta nx ro2 ka2) → Gp K B F0 ta (t { De with nx := nx }) ro ka) (k : ∀ ro2 ka2, Inv ro2 ka2 → Gp K B F0 ta (u De) ro2 ka2) : Gp K B F0 ta (tSeq t u De) ro ka := h _ k
theorem Gp.up {ta' : List (V × W)} {P : L2.St → Hp → Prop} (h : Gp K B F0 ta P ro ka) (s : ∀ p ∈ ta, p ∈ ta') : Gp K B F0 ta' P ro ka := fun sg H e => h sg H (e.held s)
end
/-! ### x not in y, y a text, a list, a tuple or a dict -/
def rDNi : R2 := fun x y H Q => ∃ a o, y = .ref a ∧ DGet H a x o ∧ Q (.bl (!o.isSome)) H
def rNiD (K : PySem.W.Frag) : R2 := fun x y H Q => rNiU K x y H Q ∨ rDNi x y H Q
section
variable {X : Cx}
theorem op_dni (hu : X.A.units + 1 < cLine) : OpR X (compareOp .NotIn) rDNi := fun pins s sg H x y v u Q I rx ry h => by
  obtain ⟨a, o, rfl, g, q⟩ := h
  obtain rfl : u = Value.ref a := ry
  exact d_notIn hu I g rx fun s' I' => ⟨.bl (!o.isSome), H, I', rfl, q⟩
theorem op_niD (hu : X.A.units + 1 < cLine) : OpR X (compareOp .NotIn) (rNiD X.K) := op_niU.or (op_dni hu)
end
/-- w holds the texts ys: a list or tuple of them, or a dict with these keys -/
inductive HasS (ka : Cells) : W → List Str → Prop where
  | sq {w : W} {t b : Bool} {ys : List Str} (l : Lk ka w t (stD ys) b) : HasS ka w ys
  | dc {w : W} {ds : List (Key × D)} {b : Bool} {ys : List Str} (l : Dk ka w ds b) (h : ∀ s, (getT ds (.inr s)).isSome = decide (s ∈ ys)) : HasS ka w ys
section
variable {K : PySem.W.Frag} {ro : Ro} {ka k1 k2 : Cells} {te tf : TE} {y : W}
theorem rv_dni {s : Str} {ds : List (Key × D)} {b : Bool} (l : Dk ka y ds b) : RvD K rDNi ka (.val (.str s)) y (.val (.bl (!(getT ds (.inr s)).isSome))) := fun B F0 ro ta sg H u v Q e h1 h2 q => by
  obtain rfl := e.tm_str h1
  obtain ⟨F, a, xs, g, ef, rfl, h3, h4⟩ := e.dk l h2
  have hg := (rpk_pt.mp h4).get (.inr s)
  refine ⟨a, getT xs (.inr s), rfl, .inl ⟨xs, .inr s, h3, rfl, rfl⟩, q _ _ ?_⟩
  have e5 := e.push_imm (v := .bl (!(getT xs (.inr s)).isSome)) (w := .val (.bl (!(getT xs (.inr s)).isSome))) fun _ => rfl
  cases hd : getT ds (.inr s) with
  | none => rw [hg.1 hd] at e5 ⊢; exact e5
  | some d =>
    obtain ⟨x, hx, _⟩ := hg.2 d hd
    rw [hx] at e5 ⊢
    exact e5
theorem ev_niH {s : Str} {ys : List Str} (h : EvD K te ro ka (.val (.str s)) k1) (h2 : EvD K tf ro k1 y k2) (l : HasS k2 y ys) : EvD K (tOp (rNiD K) te tf) ro ka (.val (.bl (!decide (s ∈ ys)))) k2 := by
  cases l with
  | sq l => exact ev_op h h2 (rvd_l (rvd_r (rv_inL (neg := true) l)))
  | dc l hs => exact (ev_op h h2 (rvd_r (rv_dni l))).to (by rw [hs])
end
end DL

/-! EL: cells frozen for the length of one expression, then cells again (own work). -/
namespace DL
open PySem L2 PySem.W
/-! ### data that reads no cell: numbers, texts, tuples of these -/
mutual
def tI : D → Bool
  | .lst _ => false | .dic _ => false | .dit _ => false | .ins _ _ => false
  | .tup xs => tIL xs
  | _ => true
def tIL : List D → Bool
  | [] => true
  | d :: ds => tI d && tIL ds
end
theorem tIL_all : ∀ {ds : List D}, (∀ d ∈ ds, tI d = true) → tIL ds = true
  | [], _ => rfl
  | d :: ds, h => by
    rw [tIL, h d List.mem_cons_self, tIL_all fun x hx => h x (List.mem_cons_of_mem _ hx)]
    rfl
theorem tIL_stD (ss : List Str) : tIL (stD ss) = true := tIL_all fun d hd => by
  obtain ⟨s, _, rfl⟩ := List.mem_map.mp hd
  rfl
def ndI : Nd → Bool
  | .lst ds => tIL ds
  | .dic ds => ds.all fun p => tI p.2
  | .ins _ fs => fs.all fun p => tI p.2
  | .xd fs => fs.all fun p => tI p.2
  | _ => false
section
variable {K : PySem.W.Frag} {B B' F F' F0 H H' : Hp} {ro ro' : Ro} {ka k1 k2 k3 kr kt : Cells} {ta tb : List (V × W)} {sg sg' : L2.St} {te tf : TE} {tt : TT} {w x y : W} {n : Nd} {a : Addr} {C : Addr}
/-- the heap F with the cells kt of H put in -/
def thF (F H : Hp) (kt : Cells) : Hp := fun a => if a ∈ kt.map (·.1) then H a else F a
theorem thF_in {a : Addr} (h : a ∈ kt.map (·.1)) : thF F H kt a = H a := if_pos h
theorem thF_out {a : Addr} (h : a ∉ kt.map (·.1)) : thF F H kt a = F a := if_neg h
theorem thF_sub (h : ∀ p ∈ kt, F p.1 = none) : Sub F (thF F H kt) := fun a o e => by
  rw [thF_out fun m => ?_]
  · exact e
  · obtain ⟨p, hp, rfl⟩ := List.mem_map.mp m
    rw [h p hp] at e
    cases e
/-- cells of the three kinds -/
def ndK : Nd → Bool
  | .lst _ => true | .dic _ => true | .ins _ _ => true
  | _ => false
theorem ndok_kind {a : Addr} (h : NdOk K F H a n) (k : ndK n = true) : ∃ o, H a = some o ∧ isfz o = false ∧ ∀ xs, o ≠ .tup xs := by
  cases n with
  | lst ds => obtain ⟨xs, e, _⟩ := h; exact ⟨_, e, rfl, fun _ z => nomatch z⟩
  | dic ds => obtain ⟨xs, e, _⟩ := h; exact ⟨_, e, rfl, fun _ z => nomatch z⟩
  | ins C ds => obtain ⟨dx, xs, e, _⟩ := h; exact ⟨_, e, rfl, fun _ z => nomatch z⟩
  | _ => cases k
/-- what is known of cells that are put in -/
structure Thw (K : PySem.W.Frag) (F H : Hp) (kt : Cells) : Prop where
  no : ∀ p ∈ kt, F p.1 = none
  ok : ∀ p ∈ kt, NdOk K F H p.1 p.2
  kd : ∀ p ∈ kt, ndK p.2 = true
theorem Thw.gr (t : Thw K F H kt) (hB : ∀ p ∈ kt, B p.1 = none) : Gr B F (thF F H kt) := ⟨thF_sub t.no, fun a h1 h2 => by
  rw [thF_out fun m => ?_]
  · exact h1
  · obtain ⟨p, hp, rfl⟩ := List.mem_map.mp m
    exact h2 (hB p hp)⟩
theorem EnF.thw (e : EnF K B F ro (k1 ++ kt) ta sg H) (kd : ∀ p ∈ kt, ndK p.2 = true) : Thw K F H kt := ⟨fun p hp => (e.ce p (List.mem_append_right _ hp)).1, fun p hp => (e.ce p (List.mem_append_right _ hp)).2.2, kd⟩
theorem EnF.thB (e : EnF K B F ro (k1 ++ kt) ta sg H) : ∀ p ∈ kt, B p.1 = none := fun p hp => (e.ce p (List.mem_append_right _ hp)).2.1
theorem EnF.apart (e : EnF K B F ro (k1 ++ kt) ta sg H) {p : Addr × Nd} (hp : p ∈ k1) : p.1 ∉ kt.map (·.1) := fun m => by
  have nd := e.nd
  rw [List.map_append, List.nodup_append] at nd
  exact nd.2.2 p.1 (List.mem_map.mpr ⟨p, hp, rfl⟩) p.1 m rfl
/-- the cells kt go into what is frozen -/
theorem EnF.th_in (e : EnF K B F ro (k1 ++ kt) ta sg H) (kd : ∀ p ∈ kt, ndK p.2 = true) : EnF K (thF B H kt) (thF F H kt) ro k1 ta sg H := by
  have t := e.thw kd
  have hB := e.thB
  have gr := t.gr hB
  have sB : Sub B (thF B H kt) := thF_sub hB
  have nz : Nz (thF F H kt) := fun a u h => by
    by_cases m : a ∈ kt.map (·.1)
    · rw [thF_in m] at h
      obtain ⟨p, hp, rfl⟩ := List.mem_map.mp m
      obtain ⟨o, ho, hz, _⟩ := ndok_kind (t.ok p hp) (kd p hp)
      rw [ho] at h
      cases h
      exact hz
    · rw [thF_out m] at h
      exact e.nz a u h
  refine ⟨nz, fun a u h => ?_, fun a u h => ?_, ?_, fun p hp => ?_, e.ln, fun i w h => ?_, fun p hp => wok_subB nz sB (wok_gr e.nz gr (e.tm p hp))⟩
  · by_cases m : a ∈ kt.map (·.1)
    · rw [thF_in m] at h
      exact .inl h
    · rw [thF_out m] at h
      exact e.fz a u h
  · by_cases m : a ∈ kt.map (·.1)
    · rw [thF_in m] at h
      exact h
    · rw [thF_out m] at h
      exact e.fr a u h
  · have nd := e.nd
    rw [List.map_append, List.nodup_append] at nd
    exact nd.1
  · obtain ⟨c1, c2, c3⟩ := e.ce p (List.mem_append_left _ hp)
    have m := e.apart hp
    exact ⟨by rw [thF_out m]; exact c1, by rw [thF_out m]; exact c2, ndok_gr e.nz gr c3⟩
  · obtain ⟨v, h1, h2⟩ := e.sl i w h
    exact ⟨v, h1, wok_subB nz sB (wok_gr e.nz gr h2)⟩
/-! ### data that reads no cell stays without the cells -/
section
variable (no : ∀ b ∈ kt.map (·.1), ∃ o, F' b = some o ∧ isfz o = false ∧ ∀ xs, o ≠ .tup xs)
include no
theorem sqt_off {b : Addr} {xs : List V} (h : SqT K F' b xs) : SqT K (off F' kt) b xs := by
  rcases h with h | h
  · have m : b ∉ kt.map (·.1) := fun m => by
      obtain ⟨o, h1, h2, h3⟩ := no b m
      rcases h with h | ⟨z, h⟩
      · rw [h1] at h
        exact h3 _ (Option.some.inj h)
      · rw [h1] at h
        cases h
        cases h2
    exact .inl (h.elim (fun q => .inl (by rw [off_out m]; exact q)) fun ⟨z, q⟩ => .inr ⟨z, by rw [off_out m]; exact q⟩)
  · exact .inr h
mutual
theorem rp_off : ∀ (d : D) (v : V), tI d = true → Rp K F' d v → Rp K (off F' kt) d v
  | .non, v, _, h => h
  | .bl _, v, _, h => h
  | .int _, v, _, h => h
  | .str _, v, _, h => h
  | .ty _, v, _, h => h
  | .adr _, v, _, h => h
  | .tup ds, v, t, h => by
    obtain ⟨b, xs, e, h1, h2⟩ := h
    exact ⟨b, xs, e, sqt_off no h1, rpl_off ds xs t h2⟩
theorem rpl_off : ∀ (ds : List D) (xs : List V), tIL ds = true → RpL K F' ds xs → RpL K (off F' kt) ds xs
  | [], xs, _, h => h
  | d :: ds, xs, t, h => by
    obtain ⟨x, ys, e, h1, h2⟩ := h
    rw [tIL, Bool.and_eq_true] at t
    exact ⟨x, ys, e, rp_off d x t.1 h1, rpl_off ds ys t.2 h2⟩
end
theorem rpk_off : ∀ (ds : List (Key × D)) (xs : List (Key × V)), (ds.all fun p => tI p.2) = true → RpK K F' ds xs → RpK K (off F' kt) ds xs
  | [], xs, _, h => h
  | (k, d) :: ds, xs, t, h => by
    obtain ⟨x, ys, e, h1, h2⟩ := h
    rw [List.all_cons, Bool.and_eq_true] at t
    exact ⟨x, ys, e, rp_off no d x t.1 h1, rpk_off ds ys t.2 h2⟩
theorem rpf_off : ∀ (ds : List (Str × D)) (xs : List (Str × V)), (ds.all fun p => tI p.2) = true → RpF K F' ds xs → RpF K (off F' kt) ds xs
  | [], xs, _, h => h
  | (k, d) :: ds, xs, t, h => by
    obtain ⟨x, ys, e, h1, h2⟩ := h
    rw [List.all_cons, Bool.and_eq_true] at t
    exact ⟨x, ys, e, rp_off no d x t.1 h1, rpf_off ds ys t.2 h2⟩
theorem ndok_off {b : Addr} (t : ndI n = true) (h : NdOk K F' H' b n) : NdOk K (off F' kt) H' b n := by
  cases n with
  | lst ds => obtain ⟨xs, e, r⟩ := h; exact ⟨xs, e, rpl_off no ds xs t r⟩
  | dic ds => obtain ⟨xs, e, r⟩ := h; exact ⟨xs, e, rpk_off no ds xs t r⟩
  | ins C ds => obtain ⟨dx, xs, e, r⟩ := h; exact ⟨dx, xs, e, rpf_off no ds xs t r⟩
  | xd ds => obtain ⟨xs, e, r⟩ := h; exact ⟨xs, e, rpf_off no ds xs t r⟩
  | _ => cases t
end
/-- the cells kt come back -/
theorem EnF.th_out (e : EnF K B F ro (k1 ++ kt) ta sg H) (kd : ∀ p ∈ kt, ndK p.2 = true) (g : Gr (thF B H kt) (thF F H kt) F') (e' : EnF K (thF B H kt) F' ro' k2 tb sg' H') (h2 : ∀ p ∈ k2, ndI p.2 = true)
    {tc : List (V × W)} (hc : ∀ p ∈ tc, p ∈ ta ∨ ∃ d, p.2 = .val d ∧ tI d = true ∧ p ∈ tb) : Gr B F (off F' kt) ∧ EnF K B (off F' kt) ro (k2 ++ kt) tc sg H' := by
  have t := e.thw kd
  have hB := e.thB
  have inF : ∀ b ∈ kt.map (·.1), F' b = H b ∧ H' b = H b ∧ ∃ o, H b = some o ∧ isfz o = false ∧ ∀ xs, o ≠ .tup xs := fun b m => by
    obtain ⟨p, hp, rfl⟩ := List.mem_map.mp m
    obtain ⟨o, ho, hz⟩ := ndok_kind (t.ok p hp) (kd p hp)
    have h1 : F' p.1 = some o := g.sub _ _ (by rw [thF_in m, ho])
    have h3 : H' p.1 = some o := e'.fr _ _ (by rw [thF_in m, ho])
    exact ⟨h1.trans ho.symm, h3.trans ho.symm, o, ho, hz⟩
  have no : ∀ b ∈ kt.map (·.1), ∃ o, F' b = some o ∧ isfz o = false ∧ ∀ xs, o ≠ .tup xs := fun b m => by
    obtain ⟨h1, _, o, ho, hz⟩ := inF b m
    exact ⟨o, h1.trans ho, hz⟩
  have gr : Gr B F (off F' kt) := by
    refine ⟨fun b u h => ?_, fun b h1 h2 => ?_⟩
    · have m : b ∉ kt.map (·.1) := fun m => by
        obtain ⟨p, hp, rfl⟩ := List.mem_map.mp m
        rw [t.no p hp] at h
        cases h
      rw [off_out m]
      exact g.sub _ _ (by rw [thF_out m]; exact h)
    · have m : b ∉ kt.map (·.1) := fun m => by
        obtain ⟨p, hp, rfl⟩ := List.mem_map.mp m
        exact h2 (hB p hp)
      rw [off_out m]
      exact g.off b (by rw [thF_out m]; exact h1) (by rw [thF_out m]; exact h2)
  refine ⟨gr, fun b u h => e'.nz b u (off_some h).2, fun b u h => e'.fz b u (off_some h).2, fun b u h => ?_, ?_, fun p hp => ?_, e.ln, fun i w h => ?_, fun p hp => ?_⟩
  · have m : b ∉ kt.map (·.1) := fun m => by
      obtain ⟨p, hp, rfl⟩ := List.mem_map.mp m
      rw [hB p hp] at h
      cases h
    exact e'.fr _ _ (by rw [thF_out m]; exact h)
  · have nd := e.nd
    rw [List.map_append, List.nodup_append] at nd ⊢
    refine ⟨e'.nd, nd.2.1, fun b h1 c h2 z => ?_⟩
    subst z
    obtain ⟨p, hp, rfl⟩ := List.mem_map.mp h1
    have n1 := (e'.ce p hp).1
    obtain ⟨q1, _, o, ho, _⟩ := inF p.1 h2
    rw [q1, ho] at n1
    cases n1
  · rcases List.mem_append.mp hp with hp | hp
    · obtain ⟨c1, c2, c3⟩ := e'.ce p hp
      have m : p.1 ∉ kt.map (·.1) := fun m => by
        obtain ⟨q1, _, o, ho, _⟩ := inF p.1 m
        rw [q1, ho] at c1
        cases c1
      refine ⟨by rw [off_out m]; exact c1, ?_, ndok_off no (h2 p hp) c3⟩
      rw [thF_out m] at c2
      exact c2
    · have m : p.1 ∈ kt.map (·.1) := List.mem_map.mpr ⟨p, hp, rfl⟩
      exact ⟨off_in m, hB p hp, ndok_at (inF p.1 m).2.1 (ndok_gr e.nz gr (t.ok p hp))⟩
  · obtain ⟨v, h1, h2⟩ := e.sl i w h
    exact ⟨v, h1, wok_gr e.nz gr h2⟩
  · rcases hc p hp with hp | ⟨d, e1, e2, hp⟩
    · exact wok_gr e.nz gr (e.tm p hp)
    · have := e'.tm p hp
      rw [e1] at this ⊢
      exact rp_off no d p.1 e2 this
end
/-! ### what a cell stands for -/
/-- the cell at a, with what stands behind it among kt, is the data d -/
def FrzD (K : PySem.W.Frag) (kt : Cells) (a : Addr) (d : D) : Prop := ∀ F H, Nz F → Thw K F H kt → Rp K (thF F H kt) d (.ref a)
/-- the same, or a cell and what it stands for -/
inductive FzR (K : PySem.W.Frag) (kt : Cells) : D → D → Prop where
  | s (d : D) : FzR K kt d d
  | a {a : Addr} {d : D} (h : FrzD K kt a d) : FzR K kt (.adr a) d
section
variable {K : PySem.W.Frag} {F H : Hp} {kt : Cells} {a : Addr} {C : Addr}
theorem FzR.rp {d e : D} {v : V} (z : FzR K kt d e) (nz : Nz F) (t : Thw K F H kt) (h : Rp K F d v) : Rp K (thF F H kt) e v := by
  cases z with
  | s => exact Rp.mono (thF_sub t.no).exz nz _ _ h
  | a q =>
    obtain rfl : v = _ := h
    exact q F H nz t
def FzL (K : PySem.W.Frag) (kt : Cells) : List D → List D → Prop
  | [], es => es = []
  | d :: ds, es => ∃ e r, es = e :: r ∧ FzR K kt d e ∧ FzL K kt ds r
theorem FzL.same : ∀ ds : List D, FzL K kt ds ds
  | [] => rfl
  | d :: ds => ⟨d, ds, rfl, .s d, FzL.same ds⟩
theorem FzL.rp (nz : Nz F) (t : Thw K F H kt) : ∀ {ds es : List D} {xs : List V}, FzL K kt ds es → RpL K F ds xs → RpL K (thF F H kt) es xs
  | [], es, xs, z, h => by
    obtain rfl : es = [] := z
    exact h
  | d :: ds, es, xs, ⟨e, r, e1, z1, z2⟩, ⟨x, ys, e2, h1, h2⟩ => by
    subst e1
    exact ⟨x, ys, e2, z1.rp nz t h1, FzL.rp nz t z2 h2⟩
def FzF (K : PySem.W.Frag) (kt : Cells) : List (Str × D) → List (Str × D) → Prop
  | [], es => es = []
  | (k, d) :: ds, es => ∃ e r, es = (k, e) :: r ∧ FzR K kt d e ∧ FzF K kt ds r
theorem FzF.rp (nz : Nz F) (t : Thw K F H kt) : ∀ {ds es : List (Str × D)} {xs : List (Str × V)}, FzF K kt ds es → RpF K F ds xs → RpF K (thF F H kt) es xs
  | [], es, xs, z, h => by
    obtain rfl : es = [] := z
    exact h
  | (k, d) :: ds, es, xs, ⟨e, r, e1, z1, z2⟩, ⟨x, ys, e2, h1, h2⟩ => by
    subst e1
    exact ⟨x, ys, e2, z1.rp nz t h1, FzF.rp nz t z2 h2⟩
theorem frz_l {ds es : List D} (m : (a, Nd.lst ds) ∈ kt) (z : FzL K kt ds es) : FrzD K kt a (.lst es) := fun F H nz t => by
  obtain ⟨xs, h, r⟩ := t.ok _ m
  exact ⟨a, xs, rfl, .inl (by rw [thF_in (List.mem_map.mpr ⟨_, m, rfl⟩)]; exact h), z.rp nz t r⟩
theorem frz_d {ds : List (Key × D)} (m : (a, Nd.dic ds) ∈ kt) : FrzD K kt a (.dic ds) := fun F H nz t => by
  obtain ⟨xs, h, r⟩ := t.ok _ m
  exact ⟨a, xs, rfl, .inl (by rw [thF_in (List.mem_map.mpr ⟨_, m, rfl⟩)]; exact h), RpK.mono (thF_sub t.no).exz nz _ _ r⟩
theorem frz_i {ds es : List (Str × D)} (m : (a, Nd.ins C ds) ∈ kt) (z : FzF K kt ds es) : FrzD K kt a (.ins C es) := fun F H nz t => by
  obtain ⟨dx, xs, h, r⟩ := t.ok _ m
  exact ⟨a, dx, xs, rfl, .inl (by rw [thF_in (List.mem_map.mpr ⟨_, m, rfl⟩)]; exact h), z.rp nz t r⟩
end
/-- the slots ro' are those of ro, but for cells that are told as what they stand for -/
structure RoT (K : PySem.W.Frag) (kt : Cells) (ro ro' : Ro) : Prop where
  len : ro'.length = ro.length
  at' : ∀ (i : Nat) (w : W), ro'[i]? = some (some w) → ro[i]? = some (some w) ∨ ∃ (a : Addr) (d : D), w = W.val d ∧ ro[i]? = some (some (W.val (.adr a))) ∧ FrzD K kt a d
section
variable {K : PySem.W.Frag} {B F F0 H H' : Hp} {ro ro' : Ro} {ka k1 k2 k3 kr kt : Cells} {ta tb : List (V × W)} {sg sg' : L2.St} {te tf : TE} {tt : TT} {w x y : W} {n : Nd} {a : Addr} {d : D}
theorem RoT.refl : RoT K kt ro ro := ⟨rfl, fun _ _ h => .inl h⟩
theorem RoT.set {i : Nat} (r : RoT K kt ro ro') (hi : ro[i]? = some (some (.val (.adr a)))) (z : FrzD K kt a d) : RoT K kt ro (ro'.set i (some (.val d))) := ⟨by rw [List.length_set]; exact r.len, fun j w h => by
  rw [List.getElem?_set] at h
  split at h
  · rename_i e
    subst e
    split at h
    · cases h
      exact .inr ⟨a, d, rfl, hi, z⟩
    · cases h
  · exact r.at' j w h⟩
theorem EnF.th_ro (e : EnF K B F ro (k1 ++ kt) ta sg H) (kd : ∀ p ∈ kt, ndK p.2 = true) (r : RoT K kt ro ro') : EnF K (thF B H kt) (thF F H kt) ro' k1 ta sg H := by
  have e1 := e.th_in kd
  refine { e1 with ln := e1.ln.trans r.len.symm, sl := fun i w h => ?_ }
  rcases r.at' i w h with h | ⟨a, d, rfl, h, z⟩
  · exact e1.sl i w h
  · obtain ⟨v, h1, h2⟩ := e1.sl i _ h
    obtain rfl : v = .ref a := h2
    exact ⟨_, h1, z F H e.nz (e.thw kd)⟩
/-- data is told, the cells kt stand behind -/
theorem EvD.thaw {d : D} (h : EvD K te ro' k1 (.val d) k2) (kd : ∀ p ∈ kt, ndK p.2 = true) (r : RoT K kt ro ro') (hd : tI d = true) (h2 : ∀ p ∈ k2, ndI p.2 = true) : EvD K te ro (k1 ++ kt) (.val d) (k2 ++ kt) := fun B F0 ta sg H Q e q => by
  obtain ⟨F, g, e⟩ := e
  refine h (thF B H kt) (thF F H kt) ta sg H _ ⟨_, Gr.refl _ _, e.th_ro kd r⟩ fun v H' ⟨F', g', e'⟩ => q v H' ?_
  obtain ⟨g2, e2⟩ := e.th_out kd g' e' h2 (tc := (v, .val d) :: ta) fun p hp => by
    rcases List.mem_cons.mp hp with rfl | hp
    · exact .inr ⟨d, rfl, hd, List.mem_cons_self⟩
    · exact .inl hp
  exact ⟨_, g.trans g2, e2⟩
theorem EvT.thaw {b : Bool} (h : EvT K tt ro' k1 b k2) (kd : ∀ p ∈ kt, ndK p.2 = true) (r : RoT K kt ro ro') (h2 : ∀ p ∈ k2, ndI p.2 = true) : EvT K tt ro (k1 ++ kt) b (k2 ++ kt) := fun B F0 ta sg H Q e q => by
  obtain ⟨F, g, e⟩ := e
  refine h (thF B H kt) (thF F H kt) ta sg H _ ⟨_, Gr.refl _ _, e.th_ro kd r⟩ fun H' ⟨F', g', e'⟩ => q H' ?_
  obtain ⟨g2, e2⟩ := e.th_out kd g' e' h2 (tc := ta) fun p hp => .inl hp
  exact ⟨_, g.trans g2, e2⟩
theorem EvN.thaw (h : EvN K te ro' k1 n k2) (kd : ∀ p ∈ kt, ndK p.2 = true) (r : RoT K kt ro ro') (hn : ndI n = true) (h2 : ∀ p ∈ k2, ndI p.2 = true) : ∀ B F0 ta sg H (Q : VK), En K B F0 ro (k1 ++ kt) ta sg H → (∀ a H', En K B F0 ro (k2 ++ kt ++ [(a, n)]) ta sg H' → Q (.ref a) H') → te sg H Q := fun B F0 ta sg H Q e q => by
  obtain ⟨F, g, e⟩ := e
  refine h (thF B H kt) (thF F H kt) ta sg H _ ⟨_, Gr.refl _ _, e.th_ro kd r⟩ fun a H' ⟨F', g', e'⟩ => q a H' ?_
  obtain ⟨g2, e2⟩ := e.th_out kd g' e' (k2 := k2 ++ [(a, n)]) (fun p hp => by
    rcases List.mem_append.mp hp with hp | hp
    · exact h2 p hp
    · rw [List.mem_singleton.mp hp]; exact hn) (tc := ta) fun p hp => .inl hp
  refine ⟨_, g.trans g2, e2.perm ?_⟩
  rw [List.append_assoc, List.append_assoc]
  exact List.Perm.append_left _ List.perm_append_comm
theorem EvN.thawN (h : EvN K te ro' k1 n k2) (kd : ∀ p ∈ kt, ndK p.2 = true) (r : RoT K kt ro ro') (hn : ndI n = true) (h2 : ∀ p ∈ k2, ndI p.2 = true) : EvN K te ro (k1 ++ kt) n (k2 ++ kt) := h.thaw kd r hn h2
/-- what a word tells: data, and cells, that read no cell -/
theorem EvR.thaw {P : W → Cells → Prop} (h : EvR K te ro' k1 P) (kd : ∀ p ∈ kt, ndK p.2 = true) (r : RoT K kt ro ro') (hP : ∀ w k, P w k → (∃ d, w = .val d ∧ tI d = true) ∧ ∀ p ∈ k, ndI p.2 = true) : EvR K te ro (k1 ++ kt) (fun w k => ∃ k0, P w k0 ∧ k = k0 ++ kt) := fun B F0 ta sg H Q e q => by
  obtain ⟨F, g, e⟩ := e
  refine h (thF B H kt) (thF F H kt) ta sg H _ ⟨_, Gr.refl _ _, e.th_ro kd r⟩ fun w k v H' p ⟨F', g', e'⟩ => ?_
  obtain ⟨⟨d, rfl, hd⟩, hk⟩ := hP w k p
  obtain ⟨g2, e2⟩ := e.th_out kd g' e' hk (tc := (v, .val d) :: ta) fun p hp => by
    rcases List.mem_cons.mp hp with rfl | hp
    · exact .inr ⟨d, rfl, hd, List.mem_cons_self⟩
    · exact .inl hp
  exact q _ _ v H' ⟨k, p, rfl⟩ ⟨_, g.trans g2, e2⟩
/-- te raises -/
theorem EvX.thaw {E : XK} {C1 : Addr} {gs : List (Str × D)} (h : EvX K te ro' k1 E C1 gs k2) (kd : ∀ p ∈ kt, ndK p.2 = true) (r : RoT K kt ro ro') (hg : (gs.all fun p => tI p.2) = true) (h2 : ∀ p ∈ k2, ndI p.2 = true) : EvX K te ro (k1 ++ kt) E C1 gs (k2 ++ kt) := fun B F0 ta sg H Q e q => by
  obtain ⟨F, g, e⟩ := e
  refine h (thF B H kt) (thF F H kt) ta sg H _ ⟨_, Gr.refl _ _, e.th_ro kd r⟩ fun dx H' ⟨F', g', e'⟩ => q dx H' ?_
  obtain ⟨g2, e2⟩ := e.th_out kd g' e' (k2 := k2 ++ [(dx, .xd gs)]) (fun p hp => by
    rcases List.mem_append.mp hp with hp | hp
    · exact h2 p hp
    · rw [List.mem_singleton.mp hp]; exact hg) (tc := ta) fun p hp => .inl hp
  refine ⟨_, g.trans g2, e2.perm ?_⟩
  rw [List.append_assoc, List.append_assoc]
  exact List.Perm.append_left _ List.perm_append_comm
end
end DL

/-! EM: in and bool by an own class's methods; d.pop(k) (own work). -/
namespace DL
open PySem PySem.Spec PyProof.Rows L2 PySem.W
section
variable {X : Cx} {CX : CXT} {k : Nat} {C f : Addr} {fd : FuncData} {ps : List Str} {sp : Sp} {E : XK}
/-- x in o, o of the class at C -/
abbrev rOwnIn (C : Addr) (neg : Bool) (sp : Sp) (E : XK) : R2 := fun x y H Q => ∃ a dx fs, y = .ref a ∧ H a = some (.ins C dx fs) ∧ sp [.ref a, x] H (fun v H' => ∃ b : Bool, v = .bl b ∧ Q (.bl (if neg then !b else b)) H') E
theorem in_own (m : Sm X.K C "__contains__" f) (F : FnOk X.prog X.w X.K X.mg X.base CX k f fd ps sp) (hr : Room k X.A) (hb : Binds X.K fd ps []) (hx : Passes CX X E) : OpR X (compareOp .In) (rOwnIn C false sp E) := by
  intro pins s sg H x y v u Q I rx ry h
  obtain ⟨a, dx, fs, rfl, ha, h⟩ := h
  cases ry
  obtain ⟨od, J⟩ := inst_at I ha
  obtain ⟨m1, hF⟩ := I.fr
  refine in_K hF I.ok.mod.kin J m.at_ m.fn (wpAny_mono (run_fn F hr rfl hb hx I (.cons (show RelV (.ref a) (.ref a) from rfl) (.cons rx .nil)) h) (fun r s' hq => ?_) fun _ _ z => z)
  obtain ⟨t, H', I', rt, b, rfl, q⟩ := hq
  cases rt
  exact wpAny_truthy_bool ⟨.bl b, H', I', rfl, q⟩
theorem ni_own (m : Sm X.K C "__contains__" f) (F : FnOk X.prog X.w X.K X.mg X.base CX k f fd ps sp) (hr : Room k X.A) (hb : Binds X.K fd ps []) (hx : Passes CX X E) : OpR X (compareOp .NotIn) (rOwnIn C true sp E) := by
  intro pins s sg H x y v u Q I rx ry h
  obtain ⟨a, dx, fs, rfl, ha, h⟩ := h
  cases ry
  obtain ⟨od, J⟩ := inst_at I ha
  obtain ⟨m1, hF⟩ := I.fr
  refine notIn_K hF I.ok.mod.kin J m.at_ m.fn (wpAny_mono (run_fn F hr rfl hb hx I (.cons (show RelV (.ref a) (.ref a) from rfl) (.cons rx .nil)) h) (fun r s' hq => ?_) fun _ _ z => z)
  obtain ⟨t, H', I', rt, b, rfl, q⟩ := hq
  cases rt
  exact wpAny_truthy_bool ⟨.bl (!b), H', I', rfl, q⟩
/-- what bool of an object asks -/
theorem new_bool_own {prog : Program} {w : World} (a : Addr) : MeetsIn prog w (Builtin.«bool.__new__» ⟨[.type "bool", .ref a], []⟩) (fun A R s => wpAny (model prog w) A.in1 (truthy (.ref a)) (fun b s' => R (.ok (.ret (.bool b))) s') (fun e s' => R (.error e) s') s) :=
  .of_wp fun A R s h => by
    have f1 := F.conv_sub_bool
    repeat (any_goals (first | assumption | (with_reducible refine wpAny_mono h (fun b s' hb => ?_) fun _ _ z => z) | wp_step))
    all_goals first | exact ⟨_, rfl, hb⟩ | exact hb | skip
/-- bool(o) -/
theorem bool_own (m : Sm X.K C "__bool__" f) (F : FnOk X.prog X.w X.K X.mg X.base CX k f fd ps sp) (hr : Room (k + 2) X.A) (hb : Binds X.K fd ps []) (hx : Passes CX X E) :
    CallR X (.type "bool") (fun xs H Q => ∃ a dx fs, xs = [.ref a] ∧ H a = some (.ins C dx fs) ∧ sp [.ref a] H (fun v H' => ∃ b : Bool, v = .bl b ∧ Q (.bl b) H') E) := by
  intro pins s sg H xs us Q I rv h
  obtain ⟨a, dx, fs, rfl, ha, h⟩ := h
  obtain rfl := Vals.ref1 rv
  obtain ⟨od, J⟩ := inst_at I ha
  obtain ⟨m1, hF⟩ := I.fr
  refine callType_newIn PySem.F.called_bool PySem.F.newNe_bool (PySem.F.typeCall_bool_1 _) (PySem.F.newCall_bool_1 _) (fun obj => PySem.F.args_object_init_2 obj _) PySem.F.entry_bool_new (new_bool_own a) ?_
  refine truthy_K hF I.ok.mod.kin J m.at_ m.fn (wpAny_mono (run_fn F hr.in1.in1 rfl hb hx I (.cons (show RelV (.ref a) (.ref a) from rfl) .nil) h) (fun r s' hq => ?_) fun _ _ z => z)
  obtain ⟨t, H', I', rt, b, rfl, q⟩ := hq
  cases rt
  exact ⟨rfl, .bl b, H', I', rfl, q⟩
end
end DL
namespace DL
open PySem L2 PySem.W
section
variable {X : Cx} {k : Nat} {C f : Addr} {ps : List Str} {E : XK} {Ct' : Ct}
theorem in_ow (m : Sm X.K C "__contains__" f) (F : Fn X.prog X.w X.K X.mg X.base k f ps Ct') (hr : Room k X.A) (hx : Passes (L2.CX X.prog X.w) X E) : OpR X (compareOp .In) (rOwnIn C false (spC X.K Ct') E) := by
  obtain ⟨fd, F, b⟩ := F
  exact in_own m F hr b hx
theorem ni_ow (m : Sm X.K C "__contains__" f) (F : Fn X.prog X.w X.K X.mg X.base k f ps Ct') (hr : Room k X.A) (hx : Passes (L2.CX X.prog X.w) X E) : OpR X (compareOp .NotIn) (rOwnIn C true (spC X.K Ct') E) := by
  obtain ⟨fd, F, b⟩ := F
  exact ni_own m F hr b hx
abbrev rBoolO (C : Addr) (sp : Sp) (E : XK) : List V → Hp → VK → Prop := fun xs H Q => ∃ a dx fs, xs = [.ref a] ∧ H a = some (.ins C dx fs) ∧ sp [.ref a] H (fun v H' => ∃ b : Bool, v = .bl b ∧ Q (.bl b) H') E
theorem bool_ow (m : Sm X.K C "__bool__" f) (F : Fn X.prog X.w X.K X.mg X.base k f ps Ct') (hr : Room (k + 2) X.A) (hx : Passes (L2.CX X.prog X.w) X E) : CallR X (.type "bool") (rBoolO C (spC X.K Ct') E) := by
  obtain ⟨fd, F, b⟩ := F
  exact bool_own m F hr b hx
end
section
variable {K : PySem.W.Frag} {B F0 : Hp} {ro : Ro} {ka k1 k2 kr : Cells} {ta : List (V × W)} {te tf td ty : TE} {x y : W} {C a : Addr} {fs : List (Str × D)} {b : Bool} {E : XK} {De : Ends} {u : TS}
theorem rv_ownIn {Cc : Ct} {neg c : Bool} (kr : Cells) (l : Io (k1 ++ kr) y C fs b) (hC : Cc [y, x] k1 (Rt (.bl c) k1)) : RvD K (rOwnIn C neg (spC K Cc) E) (k1 ++ kr) x y (.val (.bl (if neg then !c else c))) := fun B F0 ro ta sg H u v Q e h1 h2 q => by
  obtain ⟨a, dx, xs, rfl, ha⟩ := l.en e h2
  refine ⟨a, dx, xs, rfl, ha, sp_ret (ws := [y, x]) (ta := ta) (e.held fun p hp => ?_) rfl hC (fun _ _ z => z) fun v2 H' e2 => ?_⟩
  · rcases List.mem_append.mp hp with hp | hp
    · simp at hp
      rcases hp with rfl | rfl
      · exact h2
      · exact h1
    · exact hp
  · obtain rfl := e2.tm_bl List.mem_cons_self
    exact ⟨c, rfl, q _ _ (e2.pop.push_imm fun _ => rfl)⟩
theorem ev_inO {Cc : Ct} {c : Bool} (h : EvD K te ro ka x k1) (h2 : EvD K tf ro k1 y k2) (l : Io k2 y C fs b) (hC : Cc [y, x] [] (Rt (.bl c) [])) : EvD K (tOp (rOwnIn C false (spC K Cc) E) te tf) ro ka (.val (.bl c)) k2 := ev_op h h2 (rv_ownIn (neg := false) (k1 := []) k2 l hC)
theorem ev_niO {Cc : Ct} {c : Bool} (h : EvD K te ro ka x k1) (h2 : EvD K tf ro k1 y k2) (l : Io k2 y C fs b) (hC : Cc [y, x] [] (Rt (.bl c) [])) : EvD K (tOp (rOwnIn C true (spC K Cc) E) te tf) ro ka (.val (.bl (!c))) k2 := ev_op h h2 (rv_ownIn (neg := true) (k1 := []) k2 l hC)
theorem rc_boolO {Cc : Ct} {c : Bool} (kr : Cells) (l : Io (k1 ++ kr) x C fs b) (hC : Cc [x] k1 (Rt (.bl c) k1)) : RcD K (rBoolO C (spC K Cc) E) (k1 ++ kr) [x] (.val (.bl c)) := fun B F0 ro ta sg H us Q e hl hm q => by
  obtain ⟨u, rfl, hu⟩ := zip_one hl hm
  obtain ⟨a, dx, xs, rfl, ha⟩ := l.en e hu
  refine ⟨a, dx, xs, rfl, ha, sp_ret (ws := [x]) (ta := ta) (e.held fun p hp => ?_) rfl hC (fun _ _ z => z) fun v2 H' e2 => ?_⟩
  · rcases List.mem_append.mp hp with hp | hp
    · simp at hp
      rcases hp with rfl
      exact hu
    · exact hp
  · obtain rfl := e2.tm_bl List.mem_cons_self
    exact ⟨c, rfl, q _ _ e2⟩
theorem ev_boolO {Cc : Ct} {c : Bool} (h : EvD K te ro ka x k1) (l : Io k1 x C fs b) (hC : Cc [x] [] (Rt (.bl c) [])) : EvD K (tCB (rBoolO C (spC K Cc) E) (tCons te tNil)) ro ka (.val (.bl c)) k1 := ev_cb (ea1 h) (rc_boolO (k1 := []) k1 l hC)
/-- d.pop(text), what it tells dropped -/
theorem g_dpop {s : Str} {d : D} {j : Nat} {ds : List (Key × D)} (ho : EvD K td ro ka (.val (.adr a)) k1) (h0 : ∃ (j0 : Nat) (ds0 : List (Key × D)), k1[j0]? = some (a, Nd.dic ds0)) (he : EvD K ty ro k1 (.val (.str s)) k2) (hj : k2[j]? = some (a, .dic ds)) (hd : getT ds (.inr s) = some d)
    (k : Gp K B F0 ta De.nx ro (k2.set j (a, .dic (dropT ds (.inr s))))) : Gp K B F0 ta (tDrop (tDPop1 td ty) De) ro ka := fun sg H e => by
  refine ho B F0 ta sg H _ e fun u H1 e1 => ?_
  obtain rfl := e1.tm_adr (v := u) (a := a) List.mem_cons_self
  obtain ⟨j0, ds0, h0⟩ := h0
  refine ⟨a, rfl, ?_, he B F0 _ sg H1 _ e1 fun v H2 e2 => ?_⟩
  · obtain ⟨_, _, _, xs, hx, _⟩ := e1.cellAt h0
    exact .inl ⟨xs, .inl hx⟩
  · obtain rfl := e2.tm_str (v := v) (i := s) List.mem_cons_self
    obtain ⟨F, g, ef, xs, hx, rx⟩ := e2.cellAt hj
    obtain ⟨z, hz, _⟩ := ((rpk_pt.mp rx).get (.inr s)).2 d hd
    refine ⟨xs, .inr s, z, hx, rfl, hz, k _ _ ⟨F, g, ?_⟩⟩
    exact (ef.write (o := .dK (dropK xs (.inr s))) (n' := .dic (dropT ds (.inr s))) hj ⟨_, upd_same, rpk_pt.mpr ((rpk_pt.mp rx).drop (.inr s))⟩).held fun p hp => List.mem_cons_of_mem _ (List.mem_cons_of_mem _ hp)
theorem q_dpop {s : Str} {d : D} {j : Nat} {ds : List (Key × D)} (ho : EvD K td ro ka (.val (.adr a)) k1) (h0 : ∃ (j0 : Nat) (ds0 : List (Key × D)), k1[j0]? = some (a, Nd.dic ds0)) (he : EvD K ty ro k1 (.val (.str s)) k2) (hj : k2[j]? = some (a, .dic ds)) (hd : getT ds (.inr s) = some d)
    (k : Gp K B F0 ta (u De) ro (k2.set j (a, .dic (dropT ds (.inr s))))) : Gp K B F0 ta (tSeq (tDrop (tDPop1 td ty)) u De) ro ka := g_dpop (De := { De with nx := u De }) ho h0 he hj hd k
end
end DL
namespace DL
open PySem L2 PySem.W
/-- a def with defaults, called without them or with all -/
def FnE (P : Program) (w : World) (K : PySem.W.Frag) (mg : Str → Option Value) (base : Heap) (k : Nat) (f : Addr) (ps : List Str) (dvs : List V) (C : Ct) : Prop :=
  ∃ fd, FnOk P w K mg base (L2.CX P w) k f fd ps (spC K C) ∧ (∃ ds, Vals dvs ds ∧ Binds K fd ps ds) ∧ ∃ ds, Vals [] ds ∧ Binds K fd ps ds
section
variable {P : Program} {w : World} {K : PySem.W.Frag} {mg : Str → Option Value} {base : Heap} {k : Nat} {f : Addr} {ps N : List Str} {dvs : List V} {C : Ct} {x qual : Str} {params : Arguments} {body : List Stmt} {scope : Scope} {fd : FuncData}
theorem FnE.d (F : FnE P w K mg base k f ps dvs C) : FnD P w K mg base k f ps dvs C := let ⟨fd, a, b, _⟩ := F; ⟨fd, a, b⟩
theorem FnE.a (F : FnE P w K mg base k f ps dvs C) : Fn P w K mg base k f ps C := by
  obtain ⟨fd, a, _, ds, v, b⟩ := F
  cases v
  exact ⟨fd, a, b⟩
theorem fn_okE (F : FunD K x qual params body scope dvs [] f fd) (S : FnScope N ps scope) (hb : ∃ ds, Vals dvs ds ∧ Binds K fd ps ds) (hb2 : ∃ ds, Vals [] ds ∧ Binds K fd ps ds) (hl : ∀ ws ka out, C ws ka out → ws.length = ps.length)
    (h : ∀ (cdv : Value) (A : Around) (outer : List Env) (s : Shared) (H : Hp) (E : XK), Room k (A.deeper (PyProof.Rows.envOfC qual scope s.heap.objs.size f cdv)) →
      ∃ t, PSs (cxOf (L2.CX P w) P w K mg base N qual scope f cdv A outer s H E) body t ∧
        ∀ ws ka out B F0 Q, C ws ka out → RtOk K B F0 out Q → RxOk K B F0 out E → Gp K B F0 [] (t { nx := fun _ H' => Q .non H', rt := Q }) (ws.map some ++ List.replicate (N.length - ps.length) none) ka) : FnE P w K mg base (k + 1) f ps dvs C := by
  exact ⟨fd, fn_okG F S hl h, hb, hb2⟩
end
end DL
namespace DL
open PySem L2 PySem.W
/-- an own error that the law never raises: nothing is said of its __init__ -/
def spF : Sp := fun _ _ _ _ => False
structure Xf (P : Program) (w : World) (K : PySem.W.Frag) (mg : Str → Option Value) (base : Heap) (C : Addr) : Prop where
  xc : Xc K C
  ex : ∃ fI fd ps, findIn K (.ref C) "__init__" = some (some (.ref fI)) ∧ typeIn K (.ref fI) = some (.type "function") ∧ FnOk P w K mg base (L2.CX P w) 1 fI fd ps spF ∧ Binds K fd ps []
namespace Xf
variable {P : Program} {w : World} {K : PySem.W.Frag} {mg : Str → Option Value} {base : Heap} {C : Addr}
noncomputable def fI (Z : Xf P w K mg base C) : Addr := Classical.choose Z.ex
noncomputable def fd (Z : Xf P w K mg base C) : FuncData := Classical.choose (Classical.choose_spec Z.ex)
noncomputable def px (Z : Xf P w K mg base C) : List Str := Classical.choose (Classical.choose_spec (Classical.choose_spec Z.ex))
theorem all (Z : Xf P w K mg base C) : findIn K (.ref C) "__init__" = some (some (.ref Z.fI)) ∧ typeIn K (.ref Z.fI) = some (.type "function") ∧ FnOk P w K mg base (L2.CX P w) 1 Z.fI Z.fd Z.px spF ∧ Binds K Z.fd Z.px [] :=
  Classical.choose_spec (Classical.choose_spec (Classical.choose_spec Z.ex))
end Xf
theorem initF_ok {P : Program} {w : World} {K : PySem.W.Frag} {mg : Str → Option Value} {base : Heap} {f : Addr} {fd : FuncData} {nm qual : Str} {N ps : List Str} {params : Arguments} {body : List Stmt} {scope : Scope} {k : Nat}
    (F : FunD K nm qual params body scope [] [] f fd) (S : FnScope N ps scope) : FnOk P w K mg base (L2.CX P w) (k + 1) f fd ps spF := F.ok S (fun _ _ _ _ h => h.elim) fun _ _ _ _ _ _ _ _ _ h => h.elim
end DL

/-! EN: any cells frozen for good, returns by a word, orders of cells (own work). -/
namespace DL
open PySem L2 PySem.W
section
variable {K : PySem.W.Frag} {B F F0 H : Hp} {ro ro' : Ro} {ka kb k1 k2 k3 kr kt : Cells} {ta : List (V × W)} {sg : L2.St} {te : TE} {tt : TT} {w : W} {n : Nd} {P : L2.St → Hp → Prop} {De : Ends} {b : Bool} {Q : W → Cells → Prop}
theorem EnF.frzT (e : EnF K B F ro (k1 ++ kt) ta sg H) (kd : ∀ p ∈ kt, ndK p.2 = true) (r : RoT K kt ro ro') : Gr B F (thF F H kt) ∧ EnF K B (thF F H kt) ro' k1 ta sg H := by
  have e1 := e.th_ro kd r
  have t := e.thw kd
  have hu : uni (thF B H kt) (thF F H kt) = uni B (thF F H kt) := funext fun a => by
    unfold uni
    by_cases m : a ∈ kt.map (·.1)
    · obtain ⟨p, hp, rfl⟩ := List.mem_map.mp m
      obtain ⟨o, ho, _⟩ := ndok_kind (t.ok p hp) (kd p hp)
      rw [thF_in m, ho]
    · rw [thF_out (F := B) m]
  have hw : ∀ v w, WOk K (thF B H kt) (thF F H kt) v w → WOk K B (thF F H kt) v w := fun v w h => by
    cases w with
    | val d => exact h
    | vw d =>
      show Rp K (uni B _) d v
      rw [← hu]
      exact h
  exact ⟨t.gr e.thB, e1.nz, e1.fz, e.fr, e1.nd, fun p hp => ⟨(e1.ce p hp).1, (e.ce p (List.mem_append_left _ hp)).2.1, (e1.ce p hp).2.2⟩, e1.ln, fun i w h => let ⟨v, a, b⟩ := e1.sl i w h; ⟨v, a, hw _ _ b⟩, fun p hp => hw _ _ (e1.tm p hp)⟩
/-- the cells kt are frozen, with what stands behind them -/
theorem Gp.frzT (kt : Cells) (hp : (kr ++ kt).Perm ka) (kd : ∀ p ∈ kt, ndK p.2 = true) (r : RoT K kt ro ro') (h : Gp K B F0 ta P ro' kr) : Gp K B F0 ta P ro ka := fun sg H e => by
  obtain ⟨F, g, e⟩ := e.perm hp
  obtain ⟨g2, e2⟩ := e.frzT kd r
  exact h sg H ⟨_, g.trans g2, e2⟩
/-- a return of which a word tells -/
theorem g_retE {out : Oc} (hr : RtOk K B F0 out De.rt) (h : EvR K te ro ka Q) (o : ∀ w k, Q w k → ∃ d, w = .val d ∧ out (.ret d) k) : Gp K B F0 ta (tRet te De) ro ka := fun sg H e => h B F0 ta sg H _ e fun w k v H' q e' => by
  obtain ⟨d, rfl, ho⟩ := o w k q
  exact hr d k v H' ho e'.leave
theorem EvD.pm (h : EvD K te ro k1 w k2) (s1 : k1.Perm ka) (s2 : k2.Perm kb) : EvD K te ro ka w kb := fun B F0 ta sg H Q e q => h B F0 ta sg H Q (e.perm s1) fun v H' e' => q v H' (e'.perm s2.symm)
theorem EvT.pm (h : EvT K tt ro k1 b k2) (s1 : k1.Perm ka) (s2 : k2.Perm kb) : EvT K tt ro ka b kb := fun B F0 ta sg H Q e q => h B F0 ta sg H Q (e.perm s1) fun H' e' => q H' (e'.perm s2.symm)
theorem EvR.pm (h : EvR K te ro k1 Q) (s1 : k1.Perm ka) : EvR K te ro ka Q := fun B F0 ta sg H Q e q => h B F0 ta sg H Q (e.perm s1) q
theorem EvR.fr {P2 : W → Cells → Prop} (h : EvR K te ro k1 P2) (kr : Cells) (hP : ∀ w k, P2 w k → ∃ d, w = .val d) : EvR K te ro (k1 ++ kr) (fun w k => ∃ k0, P2 w k0 ∧ k = k0 ++ kr) := fun B F0 ta sg H Q e q => by
  obtain ⟨F, g, e⟩ := e
  refine h (off H k1) F [] sg H _ ⟨F, Gr.refl _ _, e.into e.ln (fun i w h => e.sl i w h) (fun p hp => by cases hp)⟩ fun w k v H' p e' => ?_
  obtain ⟨F', g', e'⟩ := e'
  obtain ⟨d, rfl⟩ := hP w k p
  obtain ⟨g2, e2⟩ := e.back g' e' (tb := (v, .val d) :: ta) fun p hp => by
    rcases List.mem_cons.mp hp with rfl | hp
    · exact .inr ⟨d, rfl, List.mem_cons_self⟩
    · exact .inl hp
  exact q _ _ v H' ⟨k, p, rfl⟩ ⟨F', g.trans g2, e2⟩
end
end DL
namespace DL
open PySem L2 PySem.W
section
variable {K : PySem.W.Frag} {ro : Ro} {ka k1 k2 : Cells} {ty td : TE} {P : W → Cells → Prop}
/-- text not in d, d told by a word -/
theorem ev_dniR {s : Str} {bb : Bool} (h : EvD K ty ro ka (.val (.str s)) k1) (h2 : EvR K td ro k1 P) (hP : ∀ w k, P w k → k = k2 ∧ ∃ ds b, Dk k w ds b ∧ (getT ds (.inr s)).isSome = bb) : EvD K (tDNotIn ty td) ro ka (.val (.bl (!bb))) k2 := fun B F0 ta sg H Q e q =>
  h B F0 ta sg H _ e fun u H1 e1 => h2 B F0 _ sg H1 _ e1 fun w k v H2 p e2 => by
    obtain ⟨rfl, ds, b, l, hb⟩ := hP w k p
    obtain rfl := e2.tm_str (v := u) (i := s) (List.mem_cons_of_mem _ List.mem_cons_self)
    obtain ⟨F, a, xs, g, ef, rfl, h3, h4⟩ := e2.dk l List.mem_cons_self
    have hg := (rpk_pt.mp h4).get (.inr s)
    have hx : (getT xs (.inr s)).isSome = bb := by
      rw [← hb]
      cases hd : getT ds (.inr s) with
      | none => rw [hg.1 hd]; rfl
      | some d => obtain ⟨x, hx, _⟩ := hg.2 d hd; rw [hx]; rfl
    refine ⟨a, getT xs (.inr s), rfl, .inl ⟨xs, .inr s, h3, rfl, rfl⟩, q _ _ ?_⟩
    rw [hx]
    exact (e2.held (ta' := ta) fun p hp => List.mem_cons_of_mem _ (List.mem_cons_of_mem _ hp)).push_imm fun _ => rfl
end
end DL
namespace DL
open PySem L2 PySem.W
/-- a test of whose end a word tells -/
def EvTR (K : PySem.W.Frag) (tt : TT) (ro : Ro) (ka : Cells) (R : Bool → Cells → Prop) : Prop := ∀ B F0 ta sg H (Q : Bool → Hp → Prop), En K B F0 ro ka ta sg H → (∀ b k H', R b k → En K B F0 ro k ta sg H' → Q b H') → tt sg H Q
section
variable {K : PySem.W.Frag} {B F0 : Hp} {ro : Ro} {ka k1 k2 : Cells} {ta : List (V × W)} {tt tu : TT} {De : Ends} {t t' u : TS} {R : Bool → Cells → Prop} {a b : Bool}
theorem q_whenR (h : EvTR K tt ro ka R) (h1 : ∀ k, R true k → Gp K B F0 ta (t { De with nx := u De }) ro k) (h2 : ∀ k, R false k → Gp K B F0 ta (u De) ro k) : Gp K B F0 ta (tSeq (tIfS tt t tNext) u De) ro ka := fun sg H e => h B F0 ta sg H _ e fun b k H' r e' => by
  cases b with
  | true => exact h1 k r sg H' e'
  | false => exact h2 k r sg H' e'
theorem g_ifR (h : EvTR K tt ro ka R) (h1 : ∀ k, R true k → Gp K B F0 ta (t De) ro k) (h2 : ∀ k, R false k → Gp K B F0 ta (t' De) ro k) : Gp K B F0 ta (tIfS tt t t' De) ro ka := fun sg H e => h B F0 ta sg H _ e fun b k H' r e' => by
  cases b with
  | true => exact h1 k r sg H' e'
  | false => exact h2 k r sg H' e'
theorem etr_or (h : EvT K tt ro ka a k1) (hT : a = true → R true k1) (h2 : a = false → EvTR K tu ro k1 R) : EvTR K (tOr tt tu) ro ka R := fun B F0 ta sg H Q e q => h B F0 ta sg H _ e fun H' e' => by
  cases a with
  | true => exact q true k1 H' (hT rfl) e'
  | false => exact h2 rfl B F0 ta sg H' Q e' q
theorem etr_and (h : EvT K tt ro ka a k1) (hF : a = false → R false k1) (h2 : a = true → EvTR K tu ro k1 R) : EvTR K (tAnd tt tu) ro ka R := fun B F0 ta sg H Q e q => h B F0 ta sg H _ e fun H' e' => by
  cases a with
  | false => exact q false k1 H' (hF rfl) e'
  | true => exact h2 rfl B F0 ta sg H' Q e' q
theorem EvT.toTR (h : EvT K tt ro ka a k1) (r : R a k1) : EvTR K tt ro ka R := fun B F0 ta sg H Q e q => h B F0 ta sg H _ e fun H' e' => q a k1 H' r e'
end
def toS : D → Str
  | .str s => s
  | _ => ""
theorem stD_perm {ds : List D} {ss : List Str} (h : ds.Perm (stD ss)) : ∃ ws, ds = stD ws ∧ ws.Perm ss := by
  refine ⟨ds.map toS, ?_, ?_⟩
  · unfold stD
    rw [List.map_map]
    refine (List.map_id ds).symm.trans (List.map_congr_left fun d hd => ?_)
    obtain ⟨s, _, rfl⟩ := List.mem_map.mp (h.mem_iff.mp hd)
    rfl
  · have := h.map toS
    unfold stD at this
    rw [List.map_map] at this
    rwa [show (toS ∘ D.str) = id from rfl, List.map_id] at this
end DL
namespace DL
open PySem L2 PySem.W
section
variable {K : PySem.W.Frag} {ro : Ro} {ka k1 k2 : Cells} {te : TE} {tr : TA} {C C1 : Addr} {gs : List (Str × D)} {E : XK} {ws : List W} {Cc : Ct}
/-- C(..) raises -/
theorem evx_mk {E' : XK} (ha : EvA K tr ro ka ws k1) (hC : ∀ a, Cc (.val (.adr a) :: ws) (k1 ++ [(a, .ins C [])]) (Xt C1 gs k2)) (hE : E' = E) : EvX K (tMake C (spC K Cc) [] E' tr) ro ka E C1 gs k2 := fun B F0 ta sg H Q e q => by
  subst hE
  exact evx_make ha (fun a => ⟨_, hC a, fun _ _ z => z⟩) e q
theorem evx0_mk {E' : XK} (ha : EvA K tr ro ka ws k1) (hC : ∀ a, Cc (.val (.adr a) :: ws) (k1 ++ [(a, .ins C [])]) (X0 C1 k2)) (hE : E' = E) : EvX0 K (tMake C (spC K Cc) [] E' tr) ro ka E C1 k2 := fun B F0 ta sg H Q e q => by
  subst hE
  refine ha B F0 ta sg H _ e fun vs H1 hl e1 => ?_
  intro x dx hx hd hne
  rw [List.append_nil]
  obtain ⟨F, g, e1⟩ := e1
  obtain ⟨e2, g2⟩ := e1.lay (o := .own x) hd rfl
  have hx2 : upd H1 dx (.own x) x = none := by rw [upd_ne (Ne.symm hne)]; exact hx
  have e3 := e2.cell (o := .ins C dx []) hx2 (n := .ins C []) ⟨dx, [], upd_same, rfl⟩
  have e4 := e3.push (v := .ref x) (w := .val (.adr x)) rfl
  have e5 : En K B F0 ro ((k1 ++ [(x, .ins C [])]) ++ []) ((V.ref x :: vs).zip (W.val (.adr x) :: ws) ++ ta) sg (upd (upd H1 dx (.own x)) x (.ins C dx [])) := by
    rw [List.append_nil]
    exact ⟨_, g.trans g2, e4⟩
  refine sp_exc0 e5 (by rw [List.length_cons, List.length_cons, hl]) (hC x) (fun _ _ z => z) fun H' e6 => ?_
  rw [List.append_nil] at e6
  exact q H' e6
theorem evx0_prop {C2 : Addr} {E' : XK} (h : EvX0 K te ro ka E C1 k2) : EvX0 K (tProp C2 (spC K Cc) [] E' te) ro ka E C1 k2 := fun B F0 ta sg H Q e q => h B F0 ta sg H _ e q
theorem evx0_lst (h : EvX0 K te ro ka E C1 k2) : EvX0 K (tLst (tCons te tr)) ro ka E C1 k2 := fun B F0 ta sg H Q e q => h B F0 ta sg H _ e q
end
end DL
namespace DL
open PySem L2 PySem.W
section
variable {K : PySem.W.Frag} {ro : Ro} {ka k1 k2 : Cells} {te : TE} {tt : TT} {C : Addr} {fs : List (Str × D)} {b : Bool} {w : W} {E : XK} {Cc : Ct} {P : W → Cells → Prop} {R : Bool → Cells → Prop}
theorem evr_prop {out : Oc} (kr : Cells) (h : EvD K te ro ka w (k1 ++ kr)) (l : Io (k1 ++ kr) w C fs b) (hC : Cc [w] k1 out) (ho : ∀ o k, out o k → ∃ d, o = .ret d) : EvR K (tProp C (spC K Cc) [] E te) ro ka (fun w' k => ∃ d k3, out (.ret d) k3 ∧ w' = .val d ∧ k = k3 ++ kr) := fun B F0 ta sg H Q e q => h B F0 ta sg H _ e fun u H1 e1 => by
  obtain ⟨a, dx, xs, rfl, ha⟩ := l.en e1 List.mem_cons_self
  exact ⟨a, dx, xs, rfl, ha, sp_rel (vs := [.ref a]) (ws := [w]) (ta := ta) e1 rfl hC ho fun d k3 v3 H' o e3 => q _ _ v3 H' ⟨d, k3, o, rfl, rfl⟩ e3⟩
theorem etR_B (h : EvR K te ro ka P) (hP : ∀ w k, P w k → ∃ c, w = .val (.bl c) ∧ R c k) : EvTR K (tB te) ro ka R := fun B F0 ta sg H Q e q => h B F0 ta sg H _ e fun w k v H' p e' => by
  obtain ⟨c, rfl, r⟩ := hP w k p
  exact ⟨c, e'.tm_bl List.mem_cons_self, q c k H' r e'.pop⟩
theorem etR_not (h : EvTR K tt ro ka fun b k => R (!b) k) : EvTR K (tNot tt) ro ka R := fun B F0 ta sg H Q e q => h B F0 ta sg H _ e fun b k H' r e' => q (!b) k H' r e'
/-- a built-in of something told by a word; what it made is forgotten -/
theorem ev_cbR {r : List V → Hp → VK → Prop} {z : W} (h : EvR K te ro ka P) (hP : ∀ w k, P w k → RcD K r k [w] z ∧ k2.Sublist k) : EvD K (tCB r (tCons te tNil)) ro ka z k2 := fun B F0 ta sg H Q e q =>
  h B F0 ta sg H _ e fun w k v H1 p e1 => by
    obtain ⟨hr, hs⟩ := hP w k p
    refine hr B F0 ro ((v, w) :: ta) sg H1 [v] Q e1 rfl (fun p hp => ?_) fun t H' e' => q t H' ?_
    · rcases List.mem_cons.mp hp with rfl | hp
      · exact List.mem_cons_self
      · cases hp
    · exact (e'.less hs).held fun p hp => by
        rcases List.mem_cons.mp hp with rfl | hp
        · exact List.mem_cons_self
        · exact List.mem_cons_of_mem _ (List.mem_cons_of_mem _ hp)
end
end DL

/-! EO: the head's look, from the names that a text wants alone (own work). -/
namespace DL
open PySem L2 PySem.W
/-- the addresses that are not yet in the mask m, each once -/
def freshA {α : Type} : List Addr → Nat → List Addr → (List Addr → Nat → α) → α
  | [], m, acc, k => k acc m
  | a :: r, m, acc, k => HandSHeadRun.frNat a fun b => if Nat.beq ((m >>> b) % 2) 1 then freshA r m acc k else HandSHeadRun.frNat (m + (1 <<< b)) fun m2 => freshA r m2 (b :: acc) k
/-- what these reach in n steps -/
def walkA (g : Addr → Option Obj) : Nat → Nat → List Addr → List Addr → List Addr
  | 0, _, _, all => all
  | n + 1, m, fr, all => freshA (fr.flatMap fun a => match g a with
      | some o => He.refsD o
      | none => []) m [] fun new m2 => walkA g n m2 new (all ++ new)
def rootsA (g : Addr → Option Obj) (nm : List Str) : List Addr := nm.filterMap fun x => match nsIn (He.frG g [mainGlobals]) mainGlobals x with
  | some (some (.ref a)) => some a
  | _ => none
def asZ (g : Addr → Option Obj) (nm : List Str) (n : Nat) : List Addr := freshA (rootsA g nm) ((1 <<< mainGlobals) ||| (1 <<< builtinsNs)) [] fun rs m => mainGlobals :: walkA g n m rs rs
def obsZG (n : Nat) (nm : List Str) (ex : List Fx) (fn : List Df) (g : Addr → Option Obj) : AlY := lookY ex fn (He.frG g (asZ g nm n))
def hookZ (n : Nat) (nm : List Str) (ex : List Fx) (fn : List Df) : PySem.W.Hook :=
  { α := AlY, obs := fun s => obsZG n nm ex fn s.heap.get?, val := fun _ => dueY fn, says := fun _ h => ∃ K : PySem.W.Frag, K.In h ∧ SaysY ex fn K,
    of := fun _ _ e => ⟨_, He.frG_in, e⟩,
    keeps := fun _ _ _ w k => w.elim fun K z => ⟨K, PySem.W.Frag.In.keeps z.1 k, z.2⟩ }
theorem obsZG_eq {n : Nat} {nm : List Str} {ex : List Fx} {fn : List Df} {g : Addr → Option Obj} {s : Shared} (h : ∀ a, g a = s.heap.get? a) : obsZG n nm ex fn g = (hookZ n nm ex fn).obs s :=
  congrArg (obsZG n nm ex fn) (funext h)
end DL

/-! EP: comprehensions over pairs; isinstance of several types (own work). -/
namespace DL
open PySem L2 PySem.W
theorem wipe_get (s : L2.St) : ∀ (vs : List Nat) (i : Nat), (wipe s vs)[i]? = if i ∈ vs ∧ i < s.length then some none else s[i]?
  | [], i => by
    show s[i]? = _
    rw [if_neg fun h => by cases h.1]
  | v :: vs, i => by
    show ((wipe s vs).set v none)[i]? = _
    rw [List.getElem?_set, wipe_get s vs i, wipe_length]
    by_cases hv : v = i
    · subst hv
      by_cases hl : v < s.length
      · rw [if_pos rfl, if_pos hl, if_pos ⟨List.mem_cons_self, hl⟩]
      · rw [if_pos rfl, if_neg hl, if_neg fun h => hl h.2, List.getElem?_eq_none (by omega)]
    · rw [if_neg hv]
      by_cases hm : i ∈ vs ∧ i < s.length
      · rw [if_pos hm, if_pos ⟨List.mem_cons_of_mem _ hm.1, hm.2⟩]
      · rw [if_neg hm, if_neg fun h => hm ⟨(List.mem_cons.mp h.1).resolve_left fun z => hv z.symm, h.2⟩]
theorem wipe_sets {s : L2.St} {vs : List Nat} {j : Nat} (hj : j ∈ vs) (x : Option V) : wipe (s.set j x) vs = wipe s vs := List.ext_getElem? fun i => by
  rw [wipe_get, wipe_get, List.length_set]
  by_cases h : i ∈ vs ∧ i < s.length
  · rw [if_pos h, if_pos h]
  · rw [if_neg h, if_neg h]
    by_cases e : j = i
    · subst e
      have : ¬ j < s.length := fun z => h ⟨hj, z⟩
      rw [List.getElem?_eq_none (by rw [List.length_set]; omega), List.getElem?_eq_none (by omega)]
    · rw [List.getElem?_set_ne e]
theorem wipe_two (s : L2.St) (vs : List Nat) : wipe (wipe s vs) vs = wipe s vs := List.ext_getElem? fun i => by
  rw [wipe_get, wipe_length, wipe_get]
  split <;> rfl
section
variable {K : PySem.W.Frag} {B F F0 : Hp} {ro : Ro} {ka k1 : Cells} {ta : List (V × W)} {sg : L2.St} {H : Hp} {te : TE} {tt : TT} {d1 d2 : D} {j l : Nat}
theorem gpair {σ : L2.St} {x : V} {Q : L2.St → Hp → Prop} (e : EnF K B F ro ka ta sg H) (h : Rp K F (.tup [d1, d2]) x) (q : ∀ v1 v2, Rp K F d1 v1 → Rp K F d2 v2 → Q ((σ.set j (some v1)).set l (some v2)) H) : gTup K 2 (gCons (gName j) (gCons (gName l) gNil)) x σ H Q := by
  obtain ⟨a, xs, rfl, h1, h2⟩ := h
  obtain ⟨v1, r, rfl, r1, v2, r', rfl, r2, rfl⟩ := h2
  exact ⟨a, _, rfl, sqT_mono e.fz e.nz h1, rfl, v1, [v2], rfl, v2, [], rfl, rfl, q v1 v2 r1 r2⟩
/-- [e for x, y in .. if ..]: what is told of the list -/
theorem evr_lcP {wi : TI} {ps : List (D × D)} {C : Cells → Prop} {vs : List Nat} (h : EvI K wi ro ka (ps.map fun p => W.val (.tup [p.1, p.2])) C k1) (hj : j ∈ vs) (hl : l ∈ vs) (hn : ps.length ≤ 1000000) (Inv : Nat → List D → Cells → Prop) (h0 : Inv 0 [] k1) (hC : ∀ i acc k, Inv i acc k → C k ∧ ∀ x, C (k ++ [x]))
    (hs : ∀ i p acc k, ps[i]? = some p → Inv i acc k → (∃ k2, EvT K tt (((wipeR ro vs).set j (some (.val p.1))).set l (some (.val p.2))) k false k2 ∧ Inv (i + 1) acc k2) ∨ ∃ k2 k3 d, EvT K tt (((wipeR ro vs).set j (some (.val p.1))).set l (some (.val p.2))) k true k2 ∧ EvD K te (((wipeR ro vs).set j (some (.val p.1))).set l (some (.val p.2))) k2 (.val d) k3 ∧ Inv (i + 1) (acc ++ [d]) k3)
    : EvNR K (tLc wi (gTup K 2 (gCons (gName j) (gCons (gName l) gNil))) tt te vs) ro ka (fun n k => ∃ acc, n = .lst acc ∧ Inv ps.length acc k) := fun B F0 ta sg H Q e q =>
  h B F0 ta sg H _ e fun J ta' H1 hta e1 hgo hst => fun Dl hD => by
    let P : Nat → Hp → Prop := fun i H => ∃ acc k, Inv i acc k ∧ acc.length ≤ i ∧ En K B F0 ro (k ++ [(Dl, .lst acc)]) ta' sg H
    have p0 : P 0 (upd H1 Dl (.lst [])) := by
      obtain ⟨F, g, e1⟩ := e1
      exact ⟨[], k1, h0, Nat.le_refl _, F, g, e1.cell (o := .lst []) hD (n := .lst []) ⟨[], upd_same, rfl⟩⟩
    have hln : (ps.map fun p : D × D => W.val (.tup [p.1, p.2])).length = ps.length := List.length_map _
    refine ⟨fun i m H => m = ps.length - i ∧ i ≤ ps.length ∧ P i H, ⟨ps.length, by simp, Nat.zero_le _, p0⟩, ?_⟩
    rintro i m H2 ⟨rfl, hi, acc, k, inv, hlen, e2⟩
    by_cases hlt : i < ps.length
    · have hw : ps[i]? = some ps[i] := List.getElem?_eq_getElem hlt
      have hw2 : (ps.map fun p : D × D => W.val (.tup [p.1, p.2]))[i]? = some (.val (.tup [ps[i].1, ps[i].2])) := by rw [List.getElem?_map, hw]; rfl
      obtain ⟨g1, g2⟩ := hgo i _ ro (k ++ [(Dl, .lst acc)]) ta' sg H2 hw2 ((hC i acc k inv).2 _) (fun p hp => hp) e2
      refine .inr ⟨g1, P (i + 1), fun H' p => ⟨ps.length - (i + 1), by omega, rfl, hlt, p⟩, fun x H3 y => ?_⟩
      obtain ⟨F3, gF3, eF3⟩ := g2 x H3 y
      refine gpair eF3 (eF3.tm _ List.mem_cons_self) fun v1 v2 r1 r2 => ⟨?_, ?_⟩
      · rw [wipe_sets hl, wipe_sets hj, wipe_two]
      have slots : ∀ {F : Hp}, Gr B F3 F → ∀ (a : Nat) w, ro[a]? = some (some w) → ∃ v, sg[a]? = some (some v) ∧ WOk K B F v w := fun {F} g a w ha => by
        obtain ⟨v, h1, h2⟩ := eF3.sl a w ha
        exact ⟨v, h1, wok_gr eF3.nz g h2⟩
      have out : ∀ {k : Cells} {ta2 : List (V × W)} {H : Hp}, (∃ F, Gr B F0 F ∧ EnF K B F (((wipeR ro vs).set j (some (.val ps[i].1))).set l (some (.val ps[i].2))) k ta2 (((wipe sg vs).set j (some v1)).set l (some v2)) H ∧ ∀ (a : Nat) w, ro[a]? = some (some w) → ∃ v, sg[a]? = some (some v) ∧ WOk K B F v w) → En K B F0 ro k ta2 sg H := fun ⟨F, g, q, hs⟩ => ⟨F, g, q.frame (by obtain ⟨_, _, e0⟩ := e; exact e0.ln) hs⟩
      have e4' : En K B F3 (((wipeR ro vs).set j (some (.val ps[i].1))).set l (some (.val ps[i].2))) (k ++ [(Dl, .lst acc)]) ta' (((wipe sg vs).set j (some v1)).set l (some v2)) H3 :=
        ⟨F3, Gr.refl _ _, (((wipe_en (vs := vs) eF3).set (w := .val ps[i].1) r1 j).set (w := .val ps[i].2) r2 l).held fun p hp => List.mem_cons_of_mem _ hp⟩
      rcases hs i ps[i] acc k hw inv with ⟨k2, t1, inv2⟩ | ⟨k2, k3, d, t1, t2, inv2⟩
      · refine t1.fr [(Dl, .lst acc)] B F3 ta' _ H3 _ e4' fun H4 ⟨F4, g4, e5⟩ => ?_
        exact ⟨acc, k2, inv2, Nat.le_succ_of_le hlen, out ⟨F4, gF3.trans g4, e5, slots g4⟩⟩
      · refine t1.fr [(Dl, .lst acc)] B F3 ta' _ H3 _ e4' fun H4 e5 => ?_
        refine t2.fr [(Dl, .lst acc)] B F3 ta' _ H4 _ e5 fun v H5 ⟨F5, g5, e6⟩ => ?_
        have hx : (k3 ++ [(Dl, Nd.lst acc)])[k3.length]? = some (Dl, Nd.lst acc) := by simp
        obtain ⟨xs, h1, h2⟩ := e6.rd_lst hx
        have hv := e6.tm _ List.mem_cons_self
        have e7 := e6.write (o := .lst (xs ++ [v])) (n' := .lst (acc ++ [d])) hx ⟨_, upd_same, rpl_app h2 ⟨v, [], rfl, hv, rfl⟩⟩
        have hset : (k3 ++ [(Dl, Nd.lst acc)]).set k3.length (Dl, Nd.lst (acc ++ [d])) = k3 ++ [(Dl, Nd.lst (acc ++ [d]))] := by
          rw [List.set_append_right _ _ (Nat.le_refl _)]
          simp
        rw [hset] at e7
        refine ⟨xs, h1, by rw [rpl_len h2]; exact Nat.lt_of_le_of_lt (Nat.le_trans hlen (Nat.le_trans hi hn)) (by decide), acc ++ [d], k3, inv2, by rw [List.length_append]; exact Nat.succ_le_succ hlen, ?_⟩
        exact out ⟨F5, gF3.trans g5, e7.held fun p hp => List.mem_cons_of_mem _ hp, slots g5⟩
    · have ei : i = ps.length := by omega
      subst ei
      refine .inl ⟨hst _ ro (k ++ [(Dl, .lst acc)]) ta' sg H2 (by rw [hln]; exact Nat.le_refl _) ((hC _ acc k inv).2 _) (fun p hp => hp) e2, ?_⟩
      exact q _ _ Dl H2 ⟨acc, rfl, inv⟩ (e2.held hta)
/-- [f(x, y) for x, y in .. if p(x, y)] -/
theorem evn_filtP {wi : TI} {ps : List (D × D)} {f : D × D → D} {p : D × D → Bool} {C : Cells → Prop} {vs : List Nat} (h : EvI K wi ro ka (ps.map fun p => W.val (.tup [p.1, p.2])) C k1) (hj : j ∈ vs) (hl : l ∈ vs) (hn : ps.length ≤ 1000000) (hC : C k1 ∧ ∀ x, C (k1 ++ [x]))
    (ht : ∀ x ∈ ps, EvT K tt (((wipeR ro vs).set j (some (.val x.1))).set l (some (.val x.2))) k1 (p x) k1) (hs : ∀ x ∈ ps, p x = true → EvD K te (((wipeR ro vs).set j (some (.val x.1))).set l (some (.val x.2))) k1 (.val (f x)) k1) : EvN K (tLc wi (gTup K 2 (gCons (gName j) (gCons (gName l) gNil))) tt te vs) ro ka (.lst ((ps.filter p).map f)) k1 := fun B F0 ta sg H Q e q => by
  refine evr_lcP h hj hl hn (fun i acc k => acc = ((ps.take i).filter p).map f ∧ k = k1) ⟨rfl, rfl⟩ (fun i acc k z => by rw [z.2]; exact hC) (fun i x acc k hx ⟨e1, e2⟩ => ?_) B F0 ta sg H Q e fun n k a H' ⟨acc, hn', e1, e2⟩ e' => ?_
  · subst e1 e2
    have hm := List.mem_of_getElem? hx
    have t := ht x hm
    rw [take_succ_some hx, List.filter_append, List.map_append]
    cases hp : p x with
    | false =>
      rw [hp] at t
      exact .inl ⟨_, t, by rw [List.filter_cons, hp]; simp, rfl⟩
    | true =>
      rw [hp] at t
      exact .inr ⟨_, _, f x, t, hs x hm hp, by rw [List.filter_cons, hp]; simp, rfl⟩
  · subst hn' e1 e2
    rw [List.take_length] at e'
    exact q a H' e'
end
/-! ### isinstance of several types -/
def rIsiU (K : PySem.W.Frag) : List V → Hp → VK → Prop := fun xs H Q => rIsi K xs H Q ∨ (fun xs H Q => rIsiT K xs H Q ∨ rIsiK K xs H Q) xs H Q
theorem call_isiU {X : Cx} : CallR X (.builtin "isinstance") (rIsiU X.K) := call_isi.or (call_isiT.or call_isiK)
section
variable {K : PySem.W.Frag} {ro : Ro} {ka k1 k2 : Cells} {te tf : TE} {w : W}
/-- the type of what w stands for, wherever it is asked -/
def TwX (K : PySem.W.Frag) (ka : Cells) (w : W) (t : Value) : Prop := ∀ B F0 ro ta sg H v, En K B F0 ro ka ta sg H → (v, w) ∈ ta → TyX K H v t
theorem Tw.x {t : Value} (l : Tw K ka w t) : TwX K ka w t := fun _ _ _ _ _ _ _ e h => l.at e h
theorem twx_dic {ds : List (Key × D)} : TwX K ka (.val (.dic ds)) (.type "dict") := fun B F0 ro ta sg H v e h => by
  obtain ⟨F, g, e⟩ := e
  obtain ⟨a, xs, rfl, h1, _⟩ := e.tm _ h
  rcases e.fz.rd e.nz h1 with h1 | ⟨o, h1⟩
  · exact .base (.dK h1)
  · exact .fDict h1
theorem ev_isiX {T : String} {t : Value} {b : Bool} (h : EvD K te ro ka w k1) (l : TwX K k1 w t) (e : kitOne K t (.type T) = some b) : EvD K (tCB (rIsi K) (tCons te (tCons (tC (.ty T)) tNil))) ro ka (.val (.bl b)) k1 := ev_cb (ea2 h ev_ty) fun B F0 ro ta sg H us Q e' hl hm q => by
  obtain ⟨u, v, rfl, h1, h2⟩ := zip_two hl hm
  obtain rfl : v = .ty T := e'.tm_ty h2
  exact ⟨u, .ty T, t, .type T, b, rfl, .ty T, l _ _ _ _ _ _ _ e' h1, e, q _ _ (e'.push_imm fun _ => rfl)⟩
/-- isinstance(x, (T1, T2)) -/
theorem ev_isi2 {T1 T2 : String} {t : Value} {b1 b2 : Bool} (h : EvD K te ro ka w k1) (l : TwX K k1 w t) (e1 : kitOne K t (.type T1) = some b1) (e2 : kitOne K t (.type T2) = some b2) :
    EvD K (tCB (rIsiU K) (tCons te (tCons (tTup (tCons (tC (.ty T1)) (tCons (tC (.ty T2)) tNil))) tNil))) ro ka (.val (.bl (b1 || b2))) k1 := ev_cb (ea2 h (ev_tup (ds := [.ty T1, .ty T2]) (ea2 ev_ty ev_ty) (show 2 ≤ 100000 by decide))) fun B F0 ro ta sg H us Q e' hl hm q => by
  obtain ⟨u, v, rfl, h1, h2⟩ := zip_two hl hm
  have ty := l _ _ _ _ _ _ _ e' h1
  have fin := q (.bl (b1 || b2)) H (e'.push_imm fun _ => rfl)
  have ka : PySem.W.kitAny K t [.type T1, .type T2] = some (b1 || b2) := kitAny_cons e1 (fun z => by
    rw [z, Bool.false_or]
    exact kitAny_cons e2 (fun z2 => by rw [z2]; exact kitAny_nil) fun z2 => z2) fun z => by rw [z, Bool.true_or]
  obtain ⟨F, g, ef⟩ := e'
  obtain ⟨a, xs, rfl, s1, r1⟩ := Lk.vt.get ef (ef.tm _ h2)
  obtain ⟨x1, r, rfl, q1, x2, r', rfl, q2, rfl⟩ := r1
  obtain rfl : x1 = .ty T1 := q1
  obtain rfl : x2 = .ty T2 := q2
  have hF := ef.tm _ h2
  obtain ⟨a', xs', e3, s2, r2⟩ := hF
  cases e3
  rcases s2 with s2 | s2
  · obtain ⟨y1, r, rfl, q1, y2, r', rfl, q2, rfl⟩ := r2
    obtain rfl : y1 = .ty T1 := q1
    obtain rfl : y2 = .ty T2 := q2
    rcases s2 with s2 | ⟨o, s2⟩
    · exact .inr (.inl ⟨u, a, _, t, _, _, rfl, ef.fz.at s2 rfl, .cons (.ty T1) (.cons (.ty T2) .nil), ty, ka, fin⟩)
    · have := ef.nz _ _ s2
      cases this
  · obtain ⟨y1, r, rfl, q1, y2, r', rfl, q2, rfl⟩ := r2
    obtain rfl : y1 = .ty T1 := q1
    obtain rfl : y2 = .ty T2 := q2
    obtain ⟨o, its, n, p1, p2, p3, p4, p5⟩ := s2
    obtain ⟨oc, od, dt, sl⟩ := o
    have htl : its.toList = [.type T1, .type T2] := by
      cases hh : its.toList with
      | nil => rw [hh] at p5; cases p5
      | cons u1 us' =>
        rw [hh] at p5
        cases p5 with
        | cons a1 b1 =>
          cases b1 with
          | cons a2 b2 =>
            cases b2
            obtain rfl : _ = Value.type T1 := a1
            obtain rfl : _ = Value.type T2 := a2
            rfl
    have hits : its = [Value.type T1, .type T2].toArray := by
      rw [← htl, Array.toArray_toList]
    obtain rfl : oc = .type "tuple" := p2
    obtain rfl : dt = .seq its n := p3
    rw [hits] at p1
    exact .inr (.inr ⟨u, a, od, _, n, sl, t, _, rfl, p1, ty, ka, fin⟩)
end
end DL
namespace DL
open PySem L2 PySem.W
theorem evn_filt_to {K : PySem.W.Frag} {ro : Ro} {ka k1 : Cells} {te : TE} {ds es : List D} (h : EvN K te ro ka (.lst ds) k1) (e : ds = es) : EvN K te ro ka (.lst es) k1 := e ▸ h
end DL
namespace DL
open PySem L2 PySem.W
section
variable {K : PySem.W.Frag} {ro : Ro} {ka k1 k2 : Cells} {te : TE} {tr : TA} {w : W} {C C1 : Addr} {fs : List (Str × D)} {b : Bool} {E : XK} {Cc : Ct} {ws : List W}
/-- o.m(..) raises an error without fields; it works on no cells -/
theorem evx0_meth {m : Str} {E' : XK} (h : EvD K te ro ka w k1) (l : Io k1 w C fs b) (hm : fs.lookup m = none) (ha : EvA K tr ro k1 ws k2) (hC : Cc (w :: ws) [] (X0 C1 [])) (hE : E' = E) : EvX0 K (tMeth C m (spC K Cc) [] E' te tr) ro ka E C1 k2 := fun B F0 ta sg H Q e q => by
  subst hE
  refine h B F0 ta sg H _ e fun v H1 e1 => ?_
  obtain ⟨F, g, ef⟩ := id e1
  obtain ⟨a, dx, xs, rfl, ha1, rx⟩ := l.get ef (ef.tm _ List.mem_cons_self)
  refine ⟨a, dx, xs, rfl, ha1, rpf_none rx hm, ha B F0 _ sg H1 _ e1 fun vs H2 hl e2 => ?_⟩
  rw [List.append_nil]
  refine sp_exc0 (ws := w :: ws) (vs := .ref a :: vs) (ka := []) (k2 := []) (kr := k2) (ta := ta) (e2.held fun p hp => ?_) (by rw [List.length_cons, List.length_cons, hl]) hC (fun _ _ z => z) fun H' e3 => q H' e3
  have hp' : p ∈ (V.ref a, w) :: (vs.zip ws ++ ta) := hp
  rcases List.mem_cons.mp hp' with rfl | hp
  · exact List.mem_append_right _ List.mem_cons_self
  · rcases List.mem_append.mp hp with hp | hp
    · exact List.mem_append_left _ hp
    · exact List.mem_append_right _ (List.mem_cons_of_mem _ hp)
end
end DL

/-! EQ: for over a list of which a word tells (own work). -/
namespace DL
open PySem L2 PySem.W
/-- a value that is at hand -/
def tHold (v : V) : TE := fun _ H Q => Q v H
section
variable {K : PySem.W.Frag} {B F F0 : Hp} {ro : Ro} {ka k1 k2 k3 kr : Cells} {ta : List (V × W)} {sg : L2.St} {H H' : Hp} {te tf tg : TE} {w x y z : W} {n : Nd} {P P2 : W → Cells → Prop} {De : Ends} {u : TS} {r : R2}
theorem for_at {wi : TI} {ws : List W} {C : Cells → Prop} {j : Nat} {tb : TS} (e : En K B F0 ro ka ta sg H) (h : EvIat K B F0 wi ro ws C k1 ta sg H) (Inv : Nat → Ro → Cells → Prop) (h0 : Inv 0 ro k1) (hC : ∀ i ro2 ka2, Inv i ro2 ka2 → C ka2)
    (hs : ∀ i w ro2 ka2 ta', ws[i]? = some w → Inv i ro2 ka2 → Gp K B F0 ta' (tb { De with nx := Jp K B F0 ta' (Inv (i + 1)), ct := Jp K B F0 ta' (Inv (i + 1)), bk := De.nx }) (ro2.set j (some w)) ka2)
    (hd : ∀ ro2 ka2 ta', Inv ws.length ro2 ka2 → (∀ p ∈ ta, p ∈ ta') → Gp K B F0 ta' De.nx ro2 ka2) : tFor wi (gName j) tb De sg H :=
  h _ fun J ta' H1 hta e1 hgo hst => by
    refine ⟨fun i m sg H => m = ws.length - i ∧ i ≤ ws.length ∧ Jp K B F0 ta' (Inv i) sg H, ⟨ws.length, by simp, Nat.zero_le _, ro, k1, h0, e1⟩, ?_⟩
    rintro i m sg2 H2 ⟨rfl, hi, ro2, ka2, inv, e2⟩
    by_cases hlt : i < ws.length
    · obtain ⟨g1, g2⟩ := hgo i ws[i] ro2 ka2 ta' sg2 H2 (List.getElem?_eq_getElem hlt) (hC i ro2 ka2 inv) (fun p hp => hp) e2
      refine .inr ⟨g1, Jp K B F0 ta' (Inv (i + 1)), fun sg' H' q => ⟨ws.length - (i + 1), by omega, rfl, hlt, q⟩, fun x H3 y => ?_⟩
      have e3 := g2 x H3 y
      exact hs i ws[i] ro2 ka2 ta' (List.getElem?_eq_getElem hlt) inv _ _ (e3.set j)
    · have ei : i = ws.length := by omega
      subst ei
      exact .inl ⟨hst _ ro2 ka2 ta' sg2 H2 (Nat.le_refl _) (hC _ ro2 ka2 inv) (fun p hp => hp) e2, hd ro2 ka2 ta' inv hta sg2 H2 e2⟩
/-- a list at hand, walked -/
theorem ei_listAt {b : Bool} {ds : List D} {v : V} (e1 : En K B F0 ro k1 ((v, w) :: ta) sg H) (l : Lk k1 w false ds b) : EvIat K B F0 (iList K (tHold v)) ro (ds.map (part b)) (Stay w ds) k1 ((v, w) :: ta) sg H := fun R q => by
  have again : ∀ (a : Addr) ro2 ka2 ta2 sg2 H2, Stay w ds ka2 → (V.ref a, w) ∈ ta2 → En K B F0 ro2 ka2 ta2 sg2 H2 → ∃ F ys, EnF K B F ro2 ka2 ta2 sg2 H2 ∧ Gr B F0 F ∧ SqB K false H2 a ys ∧ RpL K (if b then uni B F else F) ds ys := fun a ro2 ka2 ta2 sg2 H2 hs hm e2 => by
    obtain ⟨F, g, e2⟩ := e2
    obtain ⟨a', ys, e', s2, r2⟩ := (l.mono ka2 hs).get e2 (e2.tm _ hm)
    cases e'
    exact ⟨F, ys, e2, g, s2, r2⟩
  have item : ∀ {i : Nat} {w2 : W} {F : Hp} {ys : List V}, (ds.map (part b))[i]? = some w2 → RpL K (if b then uni B F else F) ds ys → ∃ y, ys[i]? = some y ∧ WOk K B F y w2 := fun {i w2 F ys} hw r2 => by
    rw [List.getElem?_map] at hw
    cases hd : ds[i]? with
    | none => rw [hd] at hw; cases hw
    | some d =>
      rw [hd] at hw
      cases hw
      obtain ⟨y, hy, ry⟩ := rpl_get r2 hd
      exact ⟨y, hy, wok_part b ry⟩
  obtain ⟨F, g, ef⟩ := id e1
  obtain ⟨a, xs, rfl, s1, r1⟩ := l.get ef (ef.tm _ List.mem_cons_self)
  refine ⟨a, rfl, ⟨xs, .inl s1⟩, q _ ((.ref a, w) :: ta) H (fun p hp => hp) e1 (fun i w2 ro2 ka2 ta2 sg2 H2 hw hs hm e2 => ?_) fun i ro2 ka2 ta2 sg2 H2 hi hs hm e2 => ?_⟩
  · obtain ⟨F2, ys, ef2, g2, s2, r2⟩ := again a ro2 ka2 ta2 sg2 H2 hs (hm _ List.mem_cons_self) e2
    obtain ⟨y, hy, wy⟩ := item hw r2
    refine ⟨⟨ys, y, .inl s2, hy⟩, fun x H3 ⟨e3, ex⟩ => ?_⟩
    subst e3
    have h5 := ex ys (.inl s2)
    rw [hy] at h5
    cases h5
    exact ⟨F2, g2, ef2.push wy⟩
  · obtain ⟨F2, ys, ef2, g2, s2, r2⟩ := again a ro2 ka2 ta2 sg2 H2 hs (hm _ List.mem_cons_self) e2
    refine ⟨ys, .inl s2, ?_⟩
    rw [rpl_len r2]
    rwa [List.length_map] at hi
/-- for x in a list of which a word tells -/
theorem g_forR {j : Nat} {tb : TS} (h : EvR K te ro ka P)
    (k : ∀ w k1, P w k1 → ∃ ds b, Lk k1 w false ds b ∧ ∃ Inv : Nat → Ro → Cells → Prop, Inv 0 ro k1 ∧ (∀ i ro2 ka2, Inv i ro2 ka2 → Stay w ds ka2) ∧
      (∀ i d ro2 ka2 ta', ds[i]? = some d → Inv i ro2 ka2 → Gp K B F0 ta' (tb { De with nx := Jp K B F0 ta' (Inv (i + 1)), ct := Jp K B F0 ta' (Inv (i + 1)), bk := De.nx }) (ro2.set j (some (part b d))) ka2) ∧
      ∀ ro2 ka2 ta', Inv ds.length ro2 ka2 → (∀ p ∈ ta, p ∈ ta') → Gp K B F0 ta' De.nx ro2 ka2) : Gp K B F0 ta (tFor (iSeq K te) (gName j) tb De) ro ka := fun sg H e =>
  .inl (h B F0 ta sg H _ e fun w k1 v H1 p e1 => by
    obtain ⟨ds, b, l, Inv, h0, hC, hs, hd⟩ := k w k1 p
    refine for_at (j := j) (tb := tb) (De := De) e1 (ei_listAt e1 l) Inv h0 hC (fun i w2 ro2 ka2 ta' hw inv => ?_) fun ro2 ka2 ta' inv hta => hd ro2 ka2 ta' (by rwa [List.length_map] at inv) fun p hp => hta p (List.mem_cons_of_mem _ hp)
    rw [List.getElem?_map] at hw
    obtain ⟨d, hd2, rfl⟩ := Option.map_eq_some_iff.mp hw
    exact hs i d ro2 ka2 ta' hd2 inv)
theorem q_forR {j : Nat} {tb : TS} (h : EvR K te ro ka P)
    (k : ∀ w k1, P w k1 → ∃ ds b, Lk k1 w false ds b ∧ ∃ Inv : Nat → Ro → Cells → Prop, Inv 0 ro k1 ∧ (∀ i ro2 ka2, Inv i ro2 ka2 → Stay w ds ka2) ∧
      (∀ i d ro2 ka2 ta', ds[i]? = some d → Inv i ro2 ka2 → Gp K B F0 ta' (tb { De with nx := Jp K B F0 ta' (Inv (i + 1)), ct := Jp K B F0 ta' (Inv (i + 1)), bk := u De }) (ro2.set j (some (part b d))) ka2) ∧
      ∀ ro2 ka2 ta', Inv ds.length ro2 ka2 → (∀ p ∈ ta, p ∈ ta') → Gp K B F0 ta' (u De) ro2 ka2) : Gp K B F0 ta (tSeq (tFor (iSeq K te) (gName j) tb) u De) ro ka := g_forR (De := { De with nx := u De }) h k
theorem RvN.lstR {ds : List D} (h : RvN K r ka x y (.lst ds)) : RvR K r ka x y (fun w k => w = .val (.lst ds) ∧ k = ka) := fun B F0 ro ta sg H u v Q e h1 h2 q => h B F0 ro ta sg H u v Q e h1 h2 fun a H' e' => q _ _ _ H' ⟨rfl, rfl⟩ e'.freeze_l
/-- f(e, e2), e2 and the call's end told by words -/
theorem evr_call2R {Cc : Ct} {k0 : Cells} {E : XK} (h1 : EvD K te ro ka x k0) (h2 : EvR K tf ro k0 P) (h : ∀ y k, P y k → ∃ k1 kr out, k = k1 ++ kr ∧ Cc [x, y] k1 out ∧ (∀ o k, out o k → ∃ d, o = .ret d) ∧ ∀ d k2, out (.ret d) k2 → P2 (.val d) (k2 ++ kr)) :
    EvR K (tCall (spC K Cc) [] E (tCons te (tCons tf tNil))) ro ka P2 := fun B F0 ta sg H Q e q =>
  h1 B F0 ta sg H _ e fun u H1 e1 => h2 B F0 _ sg H1 _ e1 fun y k v H2 p e2 => by
    obtain ⟨k1, kr, out, rfl, hC, ho, hp⟩ := h y k p
    refine sp_rel (kr := kr) (vs := [u, v]) (ws := [x, y]) (ta := ta) (e2.held fun p h => ?_) rfl hC ho fun d k2 v' H' o e4 => q _ _ v' H' (hp d k2 o) e4
    have h' : p ∈ (u, x) :: (v, y) :: ta := h
    rcases List.mem_cons.mp h' with rfl | h'
    · exact List.mem_cons_of_mem _ List.mem_cons_self
    · rcases List.mem_cons.mp h' with rfl | h'
      · exact List.mem_cons_self
      · exact List.mem_cons_of_mem _ (List.mem_cons_of_mem _ h')
/-- o.m(..) raises, the net's cells in hand -/
theorem evx_meth {m : Str} {E E' : XK} {C C1 : Addr} {fs gs : List (Str × D)} {b : Bool} {Cc : Ct} {ws : List W} {tr : TA} (kr : Cells) (h : EvD K te ro ka w k1) (l : Io k1 w C fs b) (hm : fs.lookup m = none) (ha : EvA K tr ro k1 ws (k2 ++ kr)) (hC : Cc (w :: ws) k2 (Xt C1 gs k3)) (hE : E' = E) : EvX K (tMeth C m (spC K Cc) [] E' te tr) ro ka E C1 gs (k3 ++ kr) := fun B F0 ta sg H Q e q => by
  subst hE
  refine h B F0 ta sg H _ e fun v H1 e1 => ?_
  obtain ⟨F, g, ef⟩ := id e1
  obtain ⟨a, dx, xs, rfl, ha1, rx⟩ := l.get ef (ef.tm _ List.mem_cons_self)
  refine ⟨a, dx, xs, rfl, ha1, rpf_none rx hm, ha B F0 _ sg H1 _ e1 fun vs H2 hl e2 => ?_⟩
  rw [List.append_nil]
  refine sp_exc (ws := w :: ws) (vs := .ref a :: vs) (kr := kr) (ta := ta) (e2.held fun p hp => ?_) (by rw [List.length_cons, List.length_cons, hl]) hC (fun _ _ z => z) fun dx H' e3 => q dx H' (e3.perm ?_)
  · have hp' : p ∈ (V.ref a, w) :: (vs.zip ws ++ ta) := hp
    rcases List.mem_cons.mp hp' with rfl | hp
    · exact List.mem_append_right _ List.mem_cons_self
    · rcases List.mem_append.mp hp with hp | hp
      · exact List.mem_append_left _ hp
      · exact List.mem_append_right _ (List.mem_cons_of_mem _ hp)
  · rw [List.append_assoc, List.append_assoc]
    exact List.Perm.append_left _ List.perm_append_comm
/-- x = [e, f], both new cells -/
theorem q_l2NN {n1 n2 : Nd} {i : Nat} (h1 : EvN K te ro ka n1 k1) (h2 : ∀ a1, EvN K tf ro (k1 ++ [(a1, n1)]) n2 (k1 ++ [(a1, n1)])) (k : ∀ a1 a2 c, Gp K B F0 ta (u De) (ro.set i (some (.val (.adr c)))) (k1 ++ [(a1, n1)] ++ [(a2, n2)] ++ [(c, .lst [.adr a1, .adr a2])])) : Gp K B F0 ta (tSeq (tAsg (tLst (tCons te (tCons tf tNil))) (gName i)) u De) ro ka := fun sg H e =>
  h1 B F0 ta sg H _ e fun a1 H1 e1 => h2 a1 B F0 _ sg H1 _ (e1.tmA a1) fun a2 H2 e2 => by
    have e3 := e2.tmA a2
    refine ⟨(by decide : 2 ≤ sizeLine), fun c hc => ?_⟩
    obtain ⟨F, g, ef⟩ := e3
    have hu := ef.tm (.ref a1, .val (.adr a1)) (List.mem_cons_of_mem _ List.mem_cons_self)
    have hv := ef.tm (.ref a2, .val (.adr a2)) List.mem_cons_self
    have e4 : En K B F0 ro (k1 ++ [(a1, n1)] ++ [(a2, n2)] ++ [(c, .lst [.adr a1, .adr a2])]) ta sg _ := ⟨F, g, (ef.cell (o := .lst [.ref a1, .ref a2]) hc (n := .lst [.adr a1, .adr a2]) ⟨_, upd_same, .ref a1, [.ref a2], rfl, hu, .ref a2, [], rfl, hv, rfl⟩).held fun z hz => List.mem_cons_of_mem _ (List.mem_cons_of_mem _ hz)⟩
    exact k a1 a2 c _ _ (e4.setA i c)
/-- xs[i] = a new cell -/
theorem q_setiN {j : Nat} {a : Addr} {ds : List D} {i : Int} {ix : Nat} (he : EvN K tf ro ka n k1) (ho : ∀ c, EvD K te ro (k1 ++ [(c, n)]) (.val (.adr a)) (k1 ++ [(c, n)])) (hi : ∀ c, EvD K tg ro (k1 ++ [(c, n)]) (.val (.int i)) (k1 ++ [(c, n)])) (hj : ∀ c, (k1 ++ [(c, n)])[j]? = some (a, .lst ds)) (hx : ixN ds.length i = some ix)
    (k : ∀ c, Gp K B F0 ta (u De) ro ((k1 ++ [(c, n)]).set j (a, .lst (ds.set ix (.adr c))))) : Gp K B F0 ta (tSeq (tAsg tf (gSub te tg rSetL)) u De) ro ka := fun sg H e => he B F0 ta sg H _ e fun c H1 e1 => ho c B F0 _ sg H1 _ (e1.tmA c) fun u H2 e2 => hi c B F0 _ sg H2 _ e2 fun i' H3 e3 => by
  have hu := e3.tm_adr (List.mem_cons_of_mem _ List.mem_cons_self)
  have hi' := e3.tm_int List.mem_cons_self
  subst hu hi'
  obtain ⟨F, g, e3⟩ := e3
  obtain ⟨xs, hxs, rx⟩ := e3.rd_lst (hj c)
  have hv := e3.tm (.ref c, .val (.adr c)) (List.mem_cons_of_mem _ (List.mem_cons_of_mem _ List.mem_cons_self))
  refine ⟨a, xs, i, ix, rfl, rfl, hxs, by rw [rpl_len rx]; exact hx, k c _ _ ⟨F, g, ?_⟩⟩
  exact (e3.write (o := .lst (xs.set ix (.ref c))) (n' := .lst (ds.set ix (.adr c))) (hj c) ⟨_, upd_same, rpl_set ix rx hv⟩).held fun p hp => List.mem_cons_of_mem _ (List.mem_cons_of_mem _ (List.mem_cons_of_mem _ hp))
theorem etR_or0 {tt tu : TT} {R : Bool → Cells → Prop} (h1 : EvT K tt ro ka false k1) (h2 : EvTR K tu ro k1 R) : EvTR K (tOr tt tu) ro ka R := fun B F0 ta sg H Q e q => h1 B F0 ta sg H _ e fun H1 e1 => h2 B F0 ta sg H1 Q e1 q
/-- a and b, b told by a word -/
theorem evr_andV1 (h1 : EvD K te ro ka (.val (.bl true)) k1) (h2 : EvR K tf ro k1 P) : EvR K (tAndV te tf) ro ka P := fun B F0 ta sg H Q e q => h1 B F0 ta sg H _ e fun v H1 e1 => ⟨true, e1.tm_bl List.mem_cons_self, h2 B F0 ta sg H1 Q e1.pop q⟩
theorem EvR.drp (h : EvR K te ro ka P) : EvR K te ro ka (fun w k => k = [] ∧ ∃ k', P w k') := fun B F0 ta sg H Q e q => h B F0 ta sg H Q e fun w k v H' p e' => q w [] v H' ⟨rfl, k, p⟩ (e'.less (List.nil_sublist _))
end
end DL

/-! ES: what the courses' laws want (own work). -/
namespace DL
open PySem L2 PySem.W
/-- a reading that knows the slots it is asked at -/
def tAtS (f : L2.St → TE) : TE := fun sg H Q => f sg sg H Q
/-! an object made where the wish of an exception may speak of the slots -/
section
variable {X : Cx} {CX : CXT} {k : Nat} {C f : Addr} {fd : FuncData} {ps : List Str} {sp : Sp} {dvs : List V} {ds : List Value}
/-- a def run from a state that the hand layer knows, told to whoever waits for its end -/
theorem def_runs {A : Around} {E : XK} {pins : List (Addr × Obj)} {sg : L2.St} {H : Hp} {s : Shared} {Q : VK} {us : List Value} {vs : List V} {args : Args} {R : Result → Shared → Prop} (G : FnOk X.prog X.w X.K X.mg X.base CX k f fd ps sp) (room : Room k A)
    (J : L2.Inv X pins sg H s) (e0 : Env0 X.prog X.w X.K X.mg X.base A X.stack s H) (bound : BindsTo s fd args (ps.zip us)) (rv : Vals vs us) (want : sp vs H Q E)
    (back : ∀ u s', EP X pins sg Q u s' → R (.ok (.ret u)) s') (raised : ∀ e s', CX X.stack H s E e s' → R (.error e) s') : codeAny (model X.prog X.w) A (.call (.ref f) args) R s :=
  codeAny_mono (G.run _ _ _ _ _ us vs Q E room e0 bound rv want) fun
    | .error e, s', z => raised e s' z
    | .ok (.ret u), s', z => back u s' (J.after z)
abbrev tMakeS (C : Addr) (sp : Sp) (dvs : List V) (E : L2.St → XK) (t : TA) : TE := tAtS fun sg => tMake C sp dvs (E sg) t
theorem pe_makeS {E : L2.St → XK} {x : Str} {p pos : Pos} {e : Expr} {es : List Expr} {t : TA} (mk : Mk X.K C f) (G : FnOk X.prog X.w X.K X.mg X.base CX k f fd ps sp)
    (room : Room (k + 1) X.A) (glo : Gl X x) (at_ : X.mg x = some (.ref C)) (bd : Binds X.K fd ps ds) (dv : Vals dvs ds) (pass : ∀ sg, PassesAt CX X sg (E sg)) (args : PA X (e :: es) t)
    (nd : (x == ("__debug__" : Str)) = false := by decide) (st : starEach (e :: es) X.env = (false, eval e X.env) :: starEach es X.env := by rfl)
    (pl : (backTo pos (starEach es X.env)).any (·.1) = false := by rfl) : PE X (.Call (.Name x p) (e :: es) [] pos) (tMakeS C sp dvs E t) where
  run pins s sg H Q J h := by
    refine wpAny_Call_Name_kw (ld_glob J glo at_ (PySem.W.callWith_K (h₀ := X.base) J.ok.mod.kin mk.kp (thn (args.run pos pins s sg H _ J h) ?_) st pl) nd)
    rintro us s1 ⟨vs, H1, J1, rv, ask⟩
    have new := L2.Inv.made (C := C) J1
    have free := fun {b : Addr} (h : s1.heap.objs.size ≤ b) => J1.hok.fresh h
    have want := ask (s1.heap.objs.size + 1) s1.heap.objs.size (free (Nat.le_succ _)) (free (Nat.le_refl _)) (Nat.ne_of_lt (Nat.lt_succ_self _))
    have all : Vals (V.ref (s1.heap.objs.size + 1) :: (vs ++ dvs)) (Value.ref (s1.heap.objs.size + 1) :: (us ++ ds)) := .cons rfl (rv.append dv)
    have bound := bd _ (Value.ref (s1.heap.objs.size + 1) :: us) new.kIn (all.length.symm.trans (G.len _ _ _ _ want))
    refine ⟨J1.kIn, wpAny_call (make_map J1.kIn mk.makes mk.init (beq_iff_eq.mp mk.fn) (def_runs G (room.make C us []) new (new.env0.make C us []) bound all want ?_ fun e s' z => pass sg pins _ _ e s' new z))⟩
    rintro u s' ⟨_, H', J', r, rfl, fin⟩
    exact ⟨r, .ref _, H', J', rfl, fin⟩
end
section
variable {K : PySem.W.Frag} {B F0 : Hp} {ro : Ro} {ka k1 k2 k3 : Cells} {ta : List (V × W)} {te tf tg : TE} {tt : TT} {De : Ends} {t u : TS} {w x y : W}
/-- int of a truth value -/
theorem rc_intB {b : Bool} : RcD K rIntU ka [.val (.bl b)] (.val (.int (if b then 1 else 0))) := fun B F0 ro ta sg H us Q e hl hm q => by
  obtain ⟨u, rfl, hu⟩ := zip_one hl hm
  have hv := e.tm_bl hu
  subst hv
  exact .inr ⟨b, rfl, q _ _ (e.push_imm fun _ => rfl)⟩
theorem ev_intB {b : Bool} (h : EvD K te ro ka (.val (.bl b)) k1) : EvD K (tCB rIntU (tCons te tNil)) ro ka (.val (.int (if b then 1 else 0))) k1 := ev_cb (ea1 h) rc_intB
/-- a, b = x, y -/
theorem g_par {i j : Nat} {tr : TA} (h : EvA K tr ro ka [x, y] k1) (k : Gp K B F0 ta De.nx ((ro.set i (some x)).set j (some y)) k1) : Gp K B F0 ta (tPar i j tr De) ro ka := fun sg H e => h B F0 ta sg H _ e fun vs H1 hl e1 => by
  match vs, hl, e1 with
  | [v, v2], _, e1 =>
    obtain ⟨F, g, e1⟩ := e1
    have m1 := e1.tm _ List.mem_cons_self
    have m2 := e1.tm _ (List.mem_cons_of_mem _ List.mem_cons_self)
    exact ⟨v, v2, rfl, k _ _ ⟨F, g, ((e1.set m1 i).set m2 j).held fun p hp => List.mem_cons_of_mem _ (List.mem_cons_of_mem _ hp)⟩⟩
theorem q_par {i j : Nat} {tr : TA} (h : EvA K tr ro ka [x, y] k1) (k : Gp K B F0 ta (u De) ((ro.set i (some x)).set j (some y)) k1) : Gp K B F0 ta (tSeq (tPar i j tr) u De) ro ka := g_par (De := { De with nx := u De }) h k
/-- minus of an own object, told by a word -/
theorem evr_unO {Cc : Ct} {out : Oc} {E : XK} {C : Addr} {fs : List (Str × D)} {b : Bool} (kr : Cells) (h : EvD K te ro ka w (k1 ++ kr)) (l : Io (k1 ++ kr) w C fs b) (hC : Cc [w] k1 out) (ho : ∀ o k, out o k → ∃ d, o = .ret d) : EvR K (tUn (rOwn1 C (spC K Cc) E) te) ro ka (fun w' k => ∃ d k3, out (.ret d) k3 ∧ w' = .val d ∧ k = k3 ++ kr) := fun B F0 ta sg H Q e q => h B F0 ta sg H _ e fun u H1 e1 => by
  obtain ⟨a, dx, xs, rfl, ha⟩ := l.en e1 List.mem_cons_self
  exact ⟨a, dx, xs, rfl, ha, sp_rel (vs := [.ref a]) (ws := [w]) (ta := ta) e1 rfl hC ho fun d k3 v3 H' o e3 => q _ _ v3 H' ⟨d, k3, o, rfl, rfl⟩ e3⟩
/-- a slice of a list told by a word -/
theorem evr_slL {tl th : TO} {P P2 : W → Cells → Prop} (h : EvR K te ro ka P) (hP : ∀ w k, P w k → ∃ (ds : List D) (lo hi : Option Int) (k2 k3 : Cells), w = .val (.lst ds) ∧ EvO K tl ro k lo k2 ∧ EvO K th ro k2 hi k3 ∧ P2 (.val (.lst (cutD ds lo hi))) k3) : EvR K (tSl (rSlU K) te tl th) ro ka P2 := fun B F0 ta sg H Q e q =>
  h B F0 ta sg H _ e fun w k u H1 p e1 => by
    obtain ⟨ds, lo, hi, k2, k3, rfl, h1, h2, p2⟩ := hP w k p
    refine h1 B F0 _ sg H1 _ e1 fun H2 e2 => h2 B F0 _ sg H2 _ e2 fun H3 e3 => ?_
    obtain ⟨F, g, e3⟩ := e3
    obtain ⟨a, xs, rfl, s1, s2⟩ := Lk.vl.get e3 (e3.tm _ List.mem_cons_self)
    refine .inl ⟨a, xs, rfl, .inl s1, fun p hp => q _ _ _ _ p2 (En.freeze_l ?_)⟩
    exact ⟨F, g, (e3.cell (o := .lst (cutV xs lo hi)) hp (n := .lst (cutD ds lo hi)) ⟨_, upd_same, rpl_cut s2 lo hi⟩).held fun p hp => List.mem_cons_of_mem _ hp⟩
/-- an if by a test told by a word, whose ends meet -/
theorem q_whenRI {R : Bool → Cells → Prop} (Inv : Ro → Cells → Prop) (h : EvTR K tt ro ka R) (h1 : ∀ k, R true k → ∀ nx, (∀ ro2 ka2, Inv ro2 ka2 → Gp K B F0 ta nx ro2 ka2) → Gp K B F0 ta (t { De with nx := nx }) ro k) (h2 : ∀ k, R false k → Inv ro k) (k : ∀ ro2 ka2, Inv ro2 ka2 → Gp K B F0 ta (u De) ro2 ka2) : Gp K B F0 ta (tSeq (tIfS tt t tNext) u De) ro ka := q_whenR h (fun k' r => h1 k' r _ k) fun k' r => k _ _ (h2 k' r)
/-- a statement that raises within try, one clause with a name -/
theorem g_dropX {c : Value} {i : Nat} {ts : Addr → Value → Option Addr → TS} {Wout : WX} {De' : Ends} {C1 : Addr} {gs : List (Str × D)} (h : EvX K te ro ka (XW ro.length (wAs K c i ts Wout De)) C1 gs k2) (hx : exmOne K (.ref C1) c = some true)
    (hs : ∀ a dx, Gp K B F0 ta (ts a (.ref C1) (some dx) { nx := fun σ' H' => De.nx (σ'.set i none) H', rt := De.rt, bk := fun σ' H' => De.bk (σ'.set i none) H', ct := fun σ' H' => De.ct (σ'.set i none) H' }) ((List.replicate ro.length none).set i (some (.val (.adr a)))) (k2 ++ [(dx, .xd gs)])) : Gp K B F0 ta (tDrop te De') ro ka := fun sg H e =>
  h B F0 ta sg H _ e fun dx H' e' => xw_as hx (fun a => hs a dx) e'
/-- .. the slots are known in the clause -/
theorem g_dropXS {c : Value} {i : Nat} {ts : Addr → Value → Option Addr → TS} {Wout : WX} {De' : Ends} {C1 : Addr} {gs : List (Str × D)} {tf : L2.St → TE} (h : ∀ sg, EvX K (tf sg) ro ka (WE (wAs K c i ts Wout De) sg) C1 gs k2) (hx : exmOne K (.ref C1) c = some true)
    (hs : ∀ a dx, Gp K B F0 ta (ts a (.ref C1) (some dx) { nx := fun σ' H' => De.nx (σ'.set i none) H', rt := De.rt, bk := fun σ' H' => De.bk (σ'.set i none) H', ct := fun σ' H' => De.ct (σ'.set i none) H' }) (ro.set i (some (.val (.adr a)))) (k2 ++ [(dx, .xd gs)])) : Gp K B F0 ta (tDrop (tAtS tf) De') ro ka := fun sg H e =>
  h sg B F0 ta sg H _ e fun dx H' e' => ⟨true, hx, fun _ a _ => hs a dx _ _ (e'.setA i a), fun z => by cases z⟩
/-- arguments told by a word -/
def EvAR (K : PySem.W.Frag) (tr : TA) (ro : Ro) (ka : Cells) (R : List W → Cells → Prop) : Prop := ∀ B F0 ta sg H (Q : List V → Hp → Prop), En K B F0 ro ka ta sg H → (∀ ws k vs H', R ws k → vs.length = ws.length → En K B F0 ro k (vs.zip ws ++ ta) sg H' → Q vs H') → tr sg H Q
theorem ear_nil : EvAR K tNil ro ka (fun ws k => ws = [] ∧ k = ka) := fun B F0 ta sg H Q e q => q [] ka [] H ⟨rfl, rfl⟩ rfl e
theorem ear_cons {tr : TA} {P : W → Cells → Prop} {R : W → List W → Cells → Prop} (h : EvR K te ro ka P) (hr : ∀ w k, P w k → EvAR K tr ro k (R w)) : EvAR K (tCons te tr) ro ka (fun ws k => ∃ w ws', ws = w :: ws' ∧ R w ws' k) := fun B F0 ta sg H Q e q =>
  h B F0 ta sg H _ e fun w k1 u H1 p e1 => hr w k1 p B F0 _ sg H1 _ e1 fun ws k2 vs H2 r hl e2 => q (w :: ws) k2 (u :: vs) H2 ⟨w, ws, rfl, r⟩ (by rw [List.length_cons, List.length_cons, hl]) (e2.held fun p hp => by
    have hp' : p ∈ (u, w) :: (vs.zip ws ++ ta) := hp
    rcases List.mem_cons.mp hp' with rfl | h
    · exact List.mem_append_right _ List.mem_cons_self
    · rcases List.mem_append.mp h with h | h
      · exact List.mem_append_left _ h
      · exact List.mem_append_right _ (List.mem_cons_of_mem _ h))
theorem ear_cD {tr : TA} {R : List W → Cells → Prop} (h : EvD K te ro ka w k1) (hr : EvAR K tr ro k1 R) : EvAR K (tCons te tr) ro ka (fun ws k => ∃ ws', ws = w :: ws' ∧ R ws' k) := fun B F0 ta sg H Q e q =>
  h B F0 ta sg H _ e fun u H1 e1 => hr B F0 _ sg H1 _ e1 fun ws k2 vs H2 r hl e2 => q (w :: ws) k2 (u :: vs) H2 ⟨ws, rfl, r⟩ (by rw [List.length_cons, List.length_cons, hl]) (e2.held fun p hp => by
    have hp' : p ∈ (u, w) :: (vs.zip ws ++ ta) := hp
    rcases List.mem_cons.mp hp' with rfl | h
    · exact List.mem_append_right _ List.mem_cons_self
    · rcases List.mem_append.mp h with h | h
      · exact List.mem_append_left _ h
      · exact List.mem_append_right _ (List.mem_cons_of_mem _ h))
theorem ear_cN {tr : TA} {n : Nd} {R : Addr → List W → Cells → Prop} (h : EvN K te ro ka n k1) (hr : ∀ a, EvAR K tr ro (k1 ++ [(a, n)]) (R a)) : EvAR K (tCons te tr) ro ka (fun ws k => ∃ a ws', ws = .val (.adr a) :: ws' ∧ R a ws' k) := fun B F0 ta sg H Q e q =>
  h B F0 ta sg H _ e fun a H1 e1 => hr a B F0 _ sg H1 _ (e1.tmA a) fun ws k2 vs H2 r hl e2 => q (.val (.adr a) :: ws) k2 (.ref a :: vs) H2 ⟨a, ws, rfl, r⟩ (by rw [List.length_cons, List.length_cons, hl]) (e2.held fun p hp => by
    have hp' : p ∈ (V.ref a, W.val (.adr a)) :: (vs.zip ws ++ ta) := hp
    rcases List.mem_cons.mp hp' with rfl | h
    · exact List.mem_append_right _ List.mem_cons_self
    · rcases List.mem_append.mp h with h | h
      · exact List.mem_append_left _ h
      · exact List.mem_append_right _ (List.mem_cons_of_mem _ h))
theorem EvA.toR {tr : TA} {ws : List W} (h : EvA K tr ro ka ws k1) : EvAR K tr ro ka (fun ws' k => ws' = ws ∧ k = k1) := fun B F0 ta sg H Q e q => h B F0 ta sg H _ e fun vs H' hl e' => q ws k1 vs H' ⟨rfl, rfl⟩ hl e'
theorem EvAR.imp {tr : TA} {R R2 : List W → Cells → Prop} (h : EvAR K tr ro ka R) (i : ∀ ws k, R ws k → R2 ws k) : EvAR K tr ro ka R2 := fun B F0 ta sg H Q e q => h B F0 ta sg H Q e fun ws k vs H' r => q ws k vs H' (i ws k r)
/-- a call, arguments and end told by words -/
theorem evr_callAR {tr : TA} {Cc : Ct} {E : XK} {R : List W → Cells → Prop} {P2 : W → Cells → Prop} (ha : EvAR K tr ro ka R) (hC : ∀ ws k, R ws k → ∃ (ka' k1 kr : Cells) (out : Oc), ka'.Perm k ∧ ka' = k1 ++ kr ∧ Cc ws k1 out ∧ (∀ o k, out o k → ∃ d, o = .ret d) ∧ ∀ d k2, out (.ret d) k2 → P2 (.val d) (k2 ++ kr)) :
    EvR K (tCall (spC K Cc) [] E tr) ro ka P2 := fun B F0 ta sg H Q e q =>
  ha B F0 ta sg H _ e fun ws k vs H1 r hl e1 => by
    obtain ⟨ka', k1, kr, out, s, rfl, c, ho, hO⟩ := hC ws k r
    rw [List.append_nil]
    exact sp_rel (e1.perm s) hl c ho fun d k2 v H' o e2 => q _ _ v H' (hO d k2 o) e2
/-- xs.append(e), e told by a word -/
theorem g_appR {j0 : Nat} {a : Addr} {ds0 : List D} {P : W → Cells → Prop} (ho : EvD K te ro ka (.val (.adr a)) k1) (h0 : k1[j0]? = some (a, .lst ds0)) (he : EvR K tf ro k1 P)
    (k : ∀ w k2, P w k2 → ∃ (d : D) (ds : List D) (j : Nat), w = .val d ∧ k2[j]? = some (a, .lst ds) ∧ ds.length < 100000 ∧ Gp K B F0 ta De.nx ro (k2.set j (a, .lst (ds ++ [d])))) : Gp K B F0 ta (tDrop (tBM K "list" rAppend te (tCons tf tNil)) De) ro ka := fun sg H e => ho B F0 ta sg H _ e fun u H1 e1 => by
  have hu := e1.tm_adr List.mem_cons_self
  subst hu
  refine ⟨?_, he B F0 _ sg H1 _ e1 fun w k2 v H2 p e2 => ?_⟩
  · obtain ⟨F, g, e1⟩ := e1
    obtain ⟨xs, hx, _⟩ := e1.rd_lst h0
    exact .inl ⟨rfl, xs, .inl (.inl hx)⟩
  · obtain ⟨d, ds, j, rfl, hj, hz, kk⟩ := k w k2 p
    obtain ⟨F, g, e2⟩ := e2
    obtain ⟨xs, hx, rx⟩ := e2.rd_lst hj
    have hv := e2.tm _ List.mem_cons_self
    refine ⟨a, xs, v, rfl, rfl, hx, by rw [rpl_len rx]; exact Nat.lt_of_lt_of_le hz (by decide), kk _ _ ⟨F, g, ?_⟩⟩
    exact (e2.write (o := .lst (xs ++ [v])) (n' := .lst (ds ++ [d])) hj ⟨_, upd_same, rpl_app rx ⟨v, [], rfl, hv, rfl⟩⟩).held fun p hp => List.mem_cons_of_mem _ (List.mem_cons_of_mem _ hp)
/-- what raises lets the def end so -/
theorem g_dropP {out : Oc} {E : XK} {C1 : Addr} {gs : List (Str × D)} (hX : RxOk K B F0 out E) (h : EvX K te ro ka E C1 gs k2) (o : out (.exc C1 gs) k2) : Gp K B F0 ta (tDrop te De) ro ka := fun sg H e => h B F0 ta sg H _ e fun dx H' e' => hX.1 C1 gs k2 dx H' o e'.leaveX
theorem q_dropP {out : Oc} {E : XK} {C1 : Addr} {gs : List (Str × D)} (hX : RxOk K B F0 out E) (h : EvX K te ro ka E C1 gs k2) (o : out (.exc C1 gs) k2) : Gp K B F0 ta (tSeq (tDrop te) u De) ro ka := g_dropP (De := { De with nx := u De }) hX h o
theorem g_asgP {g : TG} {out : Oc} {E : XK} {C1 : Addr} {gs : List (Str × D)} (hX : RxOk K B F0 out E) (h : EvX K te ro ka E C1 gs k2) (o : out (.exc C1 gs) k2) : Gp K B F0 ta (tAsg te g De) ro ka := fun sg H e => h B F0 ta sg H _ e fun dx H' e' => hX.1 C1 gs k2 dx H' o e'.leaveX
theorem q_asgP {g : TG} {out : Oc} {E : XK} {C1 : Addr} {gs : List (Str × D)} (hX : RxOk K B F0 out E) (h : EvX K te ro ka E C1 gs k2) (o : out (.exc C1 gs) k2) : Gp K B F0 ta (tSeq (tAsg te g) u De) ro ka := g_asgP (De := { De with nx := u De }) hX h o
/-- a target of several names, the value told by a word -/
theorem g_asgRT {g : TG} {P : W → Cells → Prop} (h : EvR K te ro ka P) (k : ∀ w k1, P w k1 → ∃ ro', AsT K g w ro ro' ∧ Gp K B F0 ta De.nx ro' k1) : Gp K B F0 ta (tAsg te g De) ro ka := fun sg H e => h B F0 ta sg H _ e fun w k1 v H1 p e1 =>
  let ⟨ro', a, kk⟩ := k w k1 p
  a B F0 k1 _ sg H1 v _ e1 List.mem_cons_self fun sg' e' => kk _ _ e'.pop
theorem q_asgRT {g : TG} {P : W → Cells → Prop} (h : EvR K te ro ka P) (k : ∀ w k1, P w k1 → ∃ ro', AsT K g w ro ro' ∧ Gp K B F0 ta (u De) ro' k1) : Gp K B F0 ta (tSeq (tAsg te g) u De) ro ka := g_asgRT (De := { De with nx := u De }) h k
theorem q_dropR {P : W → Cells → Prop} (h : EvR K te ro ka P) (k : ∀ w k1, P w k1 → Gp K B F0 ta (u De) ro k1) : Gp K B F0 ta (tSeq (tDrop te) u De) ro ka := fun sg H e => h B F0 ta sg H _ e fun w k1 v H1 p e1 => k w k1 p _ _ e1.pop
theorem EvR.rp {P P2 : W → Cells → Prop} (h : EvR K te ro ka P) (hP : ∀ w k, P w k → ∃ k', P2 w k' ∧ k'.Perm k) : EvR K te ro ka P2 := fun B F0 ta sg H Q e q => h B F0 ta sg H Q e fun w k v H' p e' =>
  let ⟨k', p2, s⟩ := hP w k p
  q w k' v H' p2 (e'.perm s)
theorem g_dropR {P : W → Cells → Prop} (h : EvR K te ro ka P) (k : ∀ w k1, P w k1 → Gp K B F0 ta De.nx ro k1) : Gp K B F0 ta (tDrop te De) ro ka := fun sg H e => h B F0 ta sg H _ e fun w k1 v H1 p e1 => k w k1 p _ _ e1.pop
/-- a method of an object told by a word -/
theorem evr_methR {tr : TA} {Cc : Ct} {E : XK} {C : Addr} {m : Str} {P P2 : W → Cells → Prop} (h : EvR K te ro ka P) (hP : ∀ w k1, P w k1 → ∃ (ws : List W) (k2 kr : Cells) (fs : List (Str × D)) (b : Bool) (out : Oc), Io k1 w C fs b ∧ fs.lookup m = none ∧ EvA K tr ro k1 ws (k2 ++ kr) ∧ Cc (w :: ws) k2 out ∧ (∀ o k, out o k → ∃ d, o = .ret d) ∧ ∀ d k3, out (.ret d) k3 → P2 (.val d) (k3 ++ kr)) :
    EvR K (tMeth C m (spC K Cc) [] E te tr) ro ka P2 := fun B F0 ta sg H Q e q =>
  h B F0 ta sg H _ e fun w k1 v H1 p e1 => by
    obtain ⟨ws, k2, kr, fs, b, out, l, hm, ha, hC, ho, hO⟩ := hP w k1 p
    obtain ⟨F, g, ef⟩ := id e1
    obtain ⟨a, dx, xs, rfl, ha1, rx⟩ := l.get ef (ef.tm _ List.mem_cons_self)
    refine ⟨a, dx, xs, rfl, ha1, rpf_none rx hm, ha B F0 _ sg H1 _ e1 fun vs H2 hl e2 => ?_⟩
    rw [List.append_nil]
    refine sp_rel (ws := w :: ws) (vs := .ref a :: vs) (kr := kr) (ta := ta) (e2.held fun p hp => ?_) (by rw [List.length_cons, List.length_cons, hl]) hC ho fun d k3 v3 H' o e3 => q _ _ v3 H' (hO d k3 o) e3
    have hp' : p ∈ (V.ref a, w) :: (vs.zip ws ++ ta) := hp
    rcases List.mem_cons.mp hp' with rfl | hp
    · exact List.mem_append_right _ List.mem_cons_self
    · rcases List.mem_append.mp hp with hp | hp
      · exact List.mem_append_left _ hp
      · exact List.mem_append_right _ (List.mem_cons_of_mem _ hp)
/-- an object made, cells beside -/
theorem evr_makeF {tr : TA} {Cc : Ct} {C : Addr} {ws wd : List W} {dvs : List V} {E : XK} {P : W → Cells → Prop} (kr : Cells) (ha : EvA K tr ro ka ws (k1 ++ kr)) (hd : DvOk K dvs wd)
    (hC : ∀ a, ∃ out, Cc (.val (.adr a) :: (ws ++ wd)) (k1 ++ [(a, .ins C [])]) out ∧ ∀ o k, out o k → o = .ret .non ∧ P (.val (.adr a)) (k ++ kr)) : EvR K (tMake C (spC K Cc) dvs E tr) ro ka P := fun B F0 ta sg H Q e q =>
  ha B F0 ta sg H _ e fun vs H1 hl e1 => by
    intro x dx hx hdx hne
    obtain ⟨F, g, e1⟩ := e1
    obtain ⟨e2, g2⟩ := e1.lay (o := .own x) hdx rfl
    have hx2 : upd H1 dx (.own x) x = none := by rw [upd_ne (Ne.symm hne)]; exact hx
    have e3 := e2.cell (o := .ins C dx []) hx2 (n := .ins C []) ⟨dx, [], upd_same, rfl⟩
    obtain ⟨out, hC, ho⟩ := hC x
    have e4 : En K B F0 ro ((k1 ++ [(x, .ins C [])]) ++ kr) (dvs.zip wd ++ (vs.zip ws ++ ta)) sg (upd (upd H1 dx (.own x)) x (.ins C dx [])) := by
      refine En.perm (En.more ⟨_, g.trans g2, e3⟩ hd) ?_
      rw [List.append_assoc, List.append_assoc]
      exact List.Perm.append_left _ List.perm_append_comm
    have hlen : (V.ref x :: (vs ++ dvs)).length = (W.val (.adr x) :: (ws ++ wd)).length := by rw [List.length_cons, List.length_cons, List.length_append, List.length_append, hl, hd.1]
    have hz : (V.ref x :: (vs ++ dvs)).zip (W.val (.adr x) :: (ws ++ wd)) = (V.ref x, W.val (.adr x)) :: (vs.zip ws ++ dvs.zip wd) := by rw [List.zip_cons_cons, List.zip_append hl]
    have e5 : En K B F0 ro ((k1 ++ [(x, .ins C [])]) ++ kr) ((V.ref x :: (vs ++ dvs)).zip (W.val (.adr x) :: (ws ++ wd)) ++ ta) sg (upd (upd H1 dx (.own x)) x (.ins C dx [])) := by
      rw [hz]
      refine (e4.push_imm (v := .ref x) (w := .val (.adr x)) fun _ => rfl).held fun p hp => ?_
      rcases List.mem_cons.mp hp with rfl | hp
      · exact List.mem_cons_self
      · refine List.mem_cons_of_mem _ ?_
        rcases List.mem_append.mp hp with hp | hp
        · rcases List.mem_append.mp hp with hp | hp
          · exact List.mem_append_right _ (List.mem_append_left _ hp)
          · exact List.mem_append_left _ hp
        · exact List.mem_append_right _ (List.mem_append_right _ hp)
    refine sp_rel (kr := kr) e5 hlen hC (fun o k h => ⟨_, (ho o k h).1⟩) fun d k2 v H' o e6 => ?_
    obtain ⟨he, p⟩ := ho _ _ o
    cases he
    exact ⟨e6.tm_non List.mem_cons_self, q _ _ (.ref x) H' p (e6.pop.push_imm fun _ => rfl)⟩
end
section
variable {P : Program} {w : World} {K : PySem.W.Frag} {mg : Str → Option Value} {base : Heap} {k : Nat} {x qual : Str} {N ps : List Str} {params : Arguments} {body : List Stmt} {scope : Scope} {f : Addr} {fd : FuncData} {C : Ct}
/-- a contract that nothing meets (a def that calls itself, at depth 0) -/
theorem fn_vac (F : FunD K x qual params body scope [] [] f fd) (S : FnScope N ps scope)
    (hb : ∀ (kV doc pm : Value) (an : Option Addr) (cdv ct : Value) (us : List Value), us.length = ps.length → bindArgs (PySem.W.fnOf x qual params body scope .none kV doc pm an cdv ct) ⟨us, []⟩ = pure (ps.zip us))
    (h : ∀ ws ka out, ¬ C ws ka out) : Fn P w K mg base (k + 1) f ps C :=
  ⟨fd, F.ok S (fun _ _ _ _ z => by obtain ⟨_, _, _, _, _, c, _⟩ := z; exact absurd c (h _ _ _)) (fun _ _ _ _ _ _ _ _ _ z => by obtain ⟨_, _, _, _, _, c, _⟩ := z; exact absurd c (h _ _ _)), F.bindsN hb⟩
end
section
variable {K : PySem.W.Frag} {B F0 : Hp} {ro : Ro} {ka k1 k2 k3 : Cells} {te tf : TE} {w : W}
theorem list_snoc_ind {α : Type} {P : List α → Prop} (nil : P []) (snoc : ∀ (xs : List α) (x : α), P xs → P (xs ++ [x])) (xs : List α) : P xs := by
  have key : ∀ ys : List α, P ys.reverse := by
    intro ys
    induction ys with
    | nil => exact nil
    | cons y ys ih => rw [List.reverse_cons]; exact snoc _ _ ih
  have := key xs.reverse
  rwa [List.reverse_reverse] at this
theorem idx_le (ss : List Str) : ∀ (m : Nat) (h : m < ss.length), ss.idxOf ss[m] ≤ m := by
  induction ss with
  | nil => intro m h; cases h
  | cons x xs ih =>
    intro m h
    rw [List.idxOf_cons]
    cases m with
    | zero => simp
    | succ m =>
      cases hb : (x == (x :: xs)[m + 1]) with
      | true => simp
      | false =>
        have := ih m (by simpa using h)
        simpa using this
/-- xs.index(s), s there -/
theorem ev_index {b1 b2 : Bool} {s : Str} {ss : List Str} (ho : EvD K te ro ka w k1) (he : EvD K tf ro k1 (.val (.str s)) k2) (l1 : Lk k1 w false (stD ss) b1) (l2 : Lk k2 w false (stD ss) b2) (hm : s ∈ ss) : EvD K (tBM K "list" (rIndex K) te (tCons tf tNil)) ro ka (.val (.int (ss.idxOf s : Nat))) k2 := fun B F0 ta sg H Q e q => ho B F0 ta sg H _ e fun u H1 e1 => by
  obtain ⟨F, g, ef⟩ := id e1
  obtain ⟨a, xs, rfl, s1, r1⟩ := l1.get ef (ef.tm _ List.mem_cons_self)
  refine ⟨.inl ⟨rfl, xs, .inl s1⟩, he B F0 _ sg H1 _ e1 fun v H2 e2 => ?_⟩
  have hv := e2.tm_str (v := v) (i := s) List.mem_cons_self
  subst hv
  obtain ⟨F2, g2, ef2⟩ := id e2
  obtain ⟨a', ys, ea, s2, r2⟩ := l2.get ef2 (ef2.tm (.ref a, w) (List.mem_cons_of_mem _ List.mem_cons_self))
  cases ea
  have ey := rpl_strs r2
  subst ey
  have hlt := List.idxOf_lt_length_of_mem hm
  have hat := List.getElem_idxOf hlt
  refine ⟨a, ss.map V.str, .str s, ss.idxOf s, .str s, rfl, rfl, .inl s2, rfl, all_flat ss, ?_, beq_self_eq_true s, fun m z hmlt hz => ?_, q _ _ ?_⟩
  · rw [List.getElem?_map, List.getElem?_eq_getElem hlt, hat]
    rfl
  · rw [List.getElem?_map] at hz
    obtain ⟨x, hx, rfl⟩ := Option.map_eq_some_iff.mp hz
    show (x == s) = false
    rw [beq_eq_false_iff_ne]
    rintro rfl
    obtain ⟨hm2, hx2⟩ := List.getElem?_eq_some_iff.mp hx
    have : ss.idxOf x ≤ m := by
      rw [← hx2]
      exact idx_le ss m hm2
    omega
  · exact (e2.held (ta' := ta) fun p hp => List.mem_cons_of_mem _ (List.mem_cons_of_mem _ hp)).push_imm fun _ => rfl
theorem ev_max2 {i j : Int} (h : EvD K te ro ka (.val (.int i)) k1) (h2 : EvD K tf ro k1 (.val (.int j)) k2) : EvD K (tCB (fun xs H Q => ∃ i j, xs = [.int i, .int j] ∧ Q (.int (if j > i then j else i)) H) (tCons te (tCons tf tNil))) ro ka (.val (.int (if j > i then j else i))) k2 := ev_cb (ea2 h h2) fun B F0 ro ta sg H us Q e hl hm q => by
  obtain ⟨u, v, rfl, hu, hv⟩ := zip_two hl hm
  have h1 := e.tm_int hu
  have h2 := e.tm_int hv
  subst h1 h2
  exact ⟨i, j, rfl, q _ _ (e.push_imm fun _ => rfl)⟩
end
def Ct6 (R : W → W → W → W → W → W → Cells → Oc → Prop) : Ct := fun ws ka out => ∃ a b c d e f, ws = [a, b, c, d, e, f] ∧ R a b c d e f ka out
theorem ct6_len {R} : ∀ ws ka out, Ct6 R ws ka out → ws.length = 6 := fun _ _ _ ⟨_, _, _, _, _, _, h, _⟩ => by rw [h]; rfl
end DL

/-! EX: two own objects of one class and an operator (own work). -/
namespace DL
open PySem L2 PySem.W
/-! ### x op y, both of one class of the text -/
section
variable {X : Cx} {CX : CXT} {k : Nat} {C f : Addr} {fd : FuncData} {ps : List Str} {sp : Sp} {E : XK} {Cc : Ct}
abbrev rOwnB (C : Addr) (sp : Sp) (E : XK) : R2 := fun x y H Q => ∃ a dx fs b dy gs, x = .ref a ∧ H a = some (.ins C dx fs) ∧ y = .ref b ∧ H b = some (.ins C dy gs) ∧ sp [x, y] H Q E
theorem op_ownB {op : Operator} (o : Bo X.K C op f) (F : FnOk X.prog X.w X.K X.mg X.base CX k f fd ps sp) (hr : Room k X.A) (hb : Binds X.K fd ps []) (hx : Passes CX X E) : OpR X (binaryOp op) (rOwnB C sp E) := by
  intro pins s sg H x y v u Q I rx ry h
  obtain ⟨a, dx, fs, b, dy, gs, rfl, ha, rfl, hb2, h⟩ := h
  cases rx
  cases ry
  obtain ⟨od, J⟩ := inst_at I ha
  obtain ⟨od2, J2⟩ := inst_at I hb2
  obtain ⟨m1, hF⟩ := I.fr
  exact binop_K hF I.ok.mod.kin J J2.type o.first o.sm.at_ o.sm.fn (wpAny_mono (run_fn F hr rfl hb hx I (.cons (show RelV (.ref a) (.ref a) from rfl) (.cons (show RelV (.ref b) (.ref b) from rfl) .nil)) h) (fun u2 s2 z => cmpBack_of z) fun _ _ z => z)
theorem op_owB {op : Operator} (o : Bo X.K C op f) (F : Fn X.prog X.w X.K X.mg X.base k f ps Cc) (hr : Room k X.A) (hx : Passes (L2.CX X.prog X.w) X E) : OpR X (binaryOp op) (rOwnB C (spC X.K Cc) E) := by
  obtain ⟨fd, F, b⟩ := F
  exact op_ownB o F hr b hx
/-- x <= y -/
theorem le_ownB (m : Sm X.K C "__le__" f) (F : FnOk X.prog X.w X.K X.mg X.base CX k f fd ps sp) (hr : Room k X.A) (hb : Binds X.K fd ps []) (hx : Passes CX X E) : OpR X (compareOp .LtE) (rOwnB C sp E) := by
  intro pins s sg H x y v u Q I rx ry h
  obtain ⟨a, dx, fs, b, dy, gs, rfl, ha, rfl, hb2, h⟩ := h
  cases rx
  cases ry
  obtain ⟨od, J⟩ := inst_at I ha
  obtain ⟨od2, J2⟩ := inst_at I hb2
  obtain ⟨m1, hF⟩ := I.fr
  exact cmp_K (op := .LtE) (tb := .ref C) hr.units0 hF I.ok.mod.kin J J2.type (by unfold notFirst; simp) m.at_ m.fn (wpAny_mono (run_fn F hr rfl hb hx I (.cons (show RelV (.ref a) (.ref a) from rfl) (.cons (show RelV (.ref b) (.ref b) from rfl) .nil)) h) (fun u2 s2 z => cmpBack_of z) fun _ _ z => z)
theorem le_owB (m : Sm X.K C "__le__" f) (F : Fn X.prog X.w X.K X.mg X.base k f ps Cc) (hr : Room k X.A) (hx : Passes (L2.CX X.prog X.w) X E) : OpR X (compareOp .LtE) (rOwnB C (spC X.K Cc) E) := by
  obtain ⟨fd, F, b⟩ := F
  exact le_ownB m F hr b hx
/-- x op= y -/
structure Io2 (K : PySem.W.Frag) (C : Addr) (op : Operator) (f : Addr) : Prop where
  first : selfFirst K C = true
  sm : Sm K C (dunderI op.info.2) f
abbrev ipOwnB (C : Addr) (sp : Sp) (E : XK) : TIp := fun x y H Q => ∃ a dx fs, x = .ref a ∧ H a = some (.ins C dx fs) ∧ sp [x, y] H Q E
theorem ip_ownB {op : Operator} (o : Io2 X.K C op f) (F : FnOk X.prog X.w X.K X.mg X.base CX k f fd ps sp) (hr : Room k X.A) (hb : Binds X.K fd ps []) (hx : Passes CX X E) : PIp X op (ipOwnB C sp E) := by
  intro pins s sg H x y v u Q I rx ry h
  obtain ⟨a, dx, fs, rfl, ha, h⟩ := h
  cases rx
  obtain ⟨od, J⟩ := inst_at I ha
  obtain ⟨m1, hF⟩ := I.fr
  exact ksp_inplace hF I.ok.mod.kin J o.first o.sm.at_ o.sm.fn (wpAny_mono (run_fn F hr rfl hb hx I (.cons (show RelV (.ref a) (.ref a) from rfl) (.cons ry .nil)) h) (fun u2 s2 z => cmpBack_of z) fun _ _ z => z)
theorem ip_owB {op : Operator} (o : Io2 X.K C op f) (F : Fn X.prog X.w X.K X.mg X.base k f ps Cc) (hr : Room k X.A) (hx : Passes (L2.CX X.prog X.w) X E) : PIp X op (ipOwnB C (spC X.K Cc) E) := by
  obtain ⟨fd, F, b⟩ := F
  exact ip_ownB o F hr b hx
/-- what is never asked for: NotImplemented, behind a test that never says so -/
def tNo : TE := fun _ _ _ => False
theorem pe_no {e : Expr} : PE X e tNo := ⟨fun _ _ _ _ _ _ h => h.elim⟩
end
def fIo2 (x : Str) (op : Operator) : Fx := fun K => selfFirst K (He.ga K x) && fSm x (dunderI op.info.2) K
theorem io2_ok {K : PySem.W.Frag} {x : Str} {op : Operator} (h : fIo2 x op K = true) : Io2 K (He.ga K x) op (He.ma K (He.ga K x) (dunderI op.info.2)) := by
  unfold fIo2 at h
  rw [Bool.and_eq_true] at h
  exact ⟨h.1, sm_ok h.2⟩
/-! ### the same where what is raised may speak of the slots -/
section
variable {X : Cx} {k : Nat} {C f : Addr} {ps : List Str} {E : L2.St → XK} {Cc : Ct} {l r : Expr} {pos : Pos} {tl tr : TE}
theorem pe_opBS {op : Operator} (o : Bo X.K C op f) (F : Fn X.prog X.w X.K X.mg X.base k f ps Cc) (room : Room k X.A) (pass : ∀ sg, PassesAt (L2.CX X.prog X.w) X sg (E sg)) (hl : PE X l tl) (hr : PE X r tr) : PE X (.BinOp l op r pos) (tAtS fun sg => tOp (rOwnB C (spC X.K Cc) (E sg)) tl tr) := by
  obtain ⟨fd, F, bd⟩ := F
  refine ⟨fun pins s0 sg H Q I q => wpAny_BinOp (binT hl hr I q fun v u s x y H2 J rx ry h => ?_)⟩
  obtain ⟨a, dx, fs, b, dy, gs, rfl, ha, rfl, hb2, h⟩ := h
  cases rx
  cases ry
  obtain ⟨od, J1⟩ := inst_at J ha
  obtain ⟨od2, J2⟩ := inst_at J hb2
  obtain ⟨m1, hF⟩ := J.fr
  exact binop_K hF J.ok.mod.kin J1 J2.type o.first o.sm.at_ o.sm.fn (wpAny_mono (run_fnS F room bd (pass sg) J (.cons (show RelV (.ref a) (.ref a) from rfl) (.cons (show RelV (.ref b) (.ref b) from rfl) .nil)) h) (fun u2 s2 z => cmpBack_of z) fun _ _ z => z)
theorem pe_opTS {op : Operator} (o : Bo X.K C op f) (F : Fn X.prog X.w X.K X.mg X.base k f ps Cc) (room : Room k X.A) (pass : ∀ sg, PassesAt (L2.CX X.prog X.w) X sg (E sg)) (hl : PE X l tl) (hr : PE X r tr) : PE X (.BinOp l op r pos) (tAtS fun sg => tOp (rOwnT2 X.K C op (spC X.K Cc) (E sg)) tl tr) := by
  obtain ⟨fd, F, bd⟩ := F
  refine ⟨fun pins s0 sg H Q I q => wpAny_BinOp (binT hl hr I q fun v u s x y H2 J rx ry h => ?_)⟩
  obtain ⟨a, dx, fs, T, rfl, ha, ty, bt, h⟩ := h
  cases rx
  obtain ⟨od, J1⟩ := inst_at J ha
  obtain ⟨m1, hF⟩ := J.fr
  exact bin_look hF J.ok.mod.kin J1 (ty.tyl pins s sg u J ry) o bt (wpAny_mono (run_fnS F room bd (pass sg) J (.cons (show RelV (.ref a) (.ref a) from rfl) (.cons ry .nil)) h) (fun u2 s2 z => cmpBack_of z) fun _ _ z => z)
end
/-! ### data -/
section
variable {K : PySem.W.Frag} {B F0 : Hp} {ro : Ro} {ka k1 k2 k3 kr : Cells} {ta : List (V × W)} {td te tf ty tx : TE} {De : Ends} {t u : TS} {w x y : W} {b b2 : Bool} {C : Addr} {fs gs : List (Str × D)} {d : D}
/-- d.get(text, x): d frozen, x data -/
theorem ev_dget2 {s : Str} {ds : List (Key × D)} {z : D} (h : EvD K td ro ka w k1) (l1 : Dk k1 w ds false) (h2 : EvD K ty ro k1 (.val (.str s)) k2) (h3 : EvD K tx ro k2 (.val z) k3) (l2 : Dk k3 w ds false) : EvD K (tDGet2 td ty tx) ro ka (.val ((getT ds (.inr s)).getD z)) k3 := fun B F0 ta sg H Q e q =>
  h B F0 ta sg H _ e fun u H1 e1 => by
    obtain ⟨_, a, xs1, _, _, rfl, r1, _⟩ := e1.dk l1 List.mem_cons_self
    refine ⟨a, rfl, .inl ⟨xs1, r1⟩, h2 B F0 _ sg H1 _ e1 fun v H2 e2 => h3 B F0 _ sg H2 _ e2 fun zz H3 e3 => ?_⟩
    have hv := e3.tm_str (v := v) (i := s) (List.mem_cons_of_mem _ List.mem_cons_self)
    subst hv
    obtain ⟨F, a', xs, g, ef, ea, r2, rk⟩ := e3.dk l2 (List.mem_cons_of_mem _ (List.mem_cons_of_mem _ List.mem_cons_self))
    cases ea
    have pt := (rpk_pt.mp rk).get (.inr s)
    refine ⟨getT xs (.inr s), .inl ⟨xs, .inr s, r2, rfl, rfl⟩, ?_⟩
    have back := ef.held (ta' := ta) fun p hp => List.mem_cons_of_mem _ (List.mem_cons_of_mem _ (List.mem_cons_of_mem _ hp))
    cases hd : getT ds (.inr s) with
    | none =>
      rw [hd] at q
      rw [pt.1 hd]
      exact q _ _ ⟨F, g, back.push (ef.tm (zz, .val z) List.mem_cons_self)⟩
    | some d =>
      obtain ⟨x, hx, rx⟩ := pt.2 d hd
      rw [hd] at q
      rw [hx]
      exact q _ _ ⟨F, g, back.push rx⟩
/-- an operator of two own objects, told by a word -/
theorem evr_opB {op : Operator} {Cc : Ct} {out : Oc} {E : XK} (kr : Cells) (h1 : EvD K te ro ka x k1) (h2 : EvD K tf ro k1 y (k2 ++ kr)) (l1 : Io (k2 ++ kr) x C fs b) (l2 : Io (k2 ++ kr) y C gs b2) (hC : Cc [x, y] k2 out) (ho : ∀ o k, out o k → ∃ d, o = .ret d) :
    EvR K (tOp (rOwnB C (spC K Cc) E) te tf) ro ka (fun w k => ∃ d k3, out (.ret d) k3 ∧ w = .val d ∧ k = k3 ++ kr) := fun B F0 ta sg H Q e q =>
  h1 B F0 ta sg H _ e fun u H1 e1 => h2 B F0 _ sg H1 _ e1 fun v H2 e2 => by
    obtain ⟨a, dx, xs, rfl, ha⟩ := l1.en e2 (List.mem_cons_of_mem _ List.mem_cons_self)
    obtain ⟨a2, dy, ys, rfl, ha2⟩ := l2.en e2 List.mem_cons_self
    refine ⟨a, dx, xs, a2, dy, ys, rfl, ha, rfl, ha2, sp_rel (vs := [.ref a, .ref a2]) (ws := [x, y]) (ta := ta) (e2.held fun p hp => ?_) rfl hC ho fun d k3 v3 H' o e3 => q _ _ v3 H' ⟨d, k3, o, rfl, rfl⟩ e3⟩
    rcases List.mem_append.mp hp with hp | hp
    · simp at hp
      rcases hp with rfl | rfl
      · exact List.mem_cons_of_mem _ List.mem_cons_self
      · exact List.mem_cons_self
    · exact List.mem_cons_of_mem _ (List.mem_cons_of_mem _ hp)
theorem evx_opB {op : Operator} {Cc : Ct} {E : XK} {C1 : Addr} {hs : List (Str × D)} (kr : Cells) (h1 : EvD K te ro ka x k1) (h2 : EvD K tf ro k1 y (k2 ++ kr)) (l1 : Io (k2 ++ kr) x C fs b) (l2 : Io (k2 ++ kr) y C gs b2) (hC : Cc [x, y] k2 (Xt C1 hs k3)) :
    EvX K (tOp (rOwnB C (spC K Cc) E) te tf) ro ka E C1 hs (k3 ++ kr) := fun B F0 ta sg H Q e q =>
  h1 B F0 ta sg H _ e fun u H1 e1 => h2 B F0 _ sg H1 _ e1 fun v H2 e2 => by
    obtain ⟨a, dx, xs, rfl, ha⟩ := l1.en e2 (List.mem_cons_of_mem _ List.mem_cons_self)
    obtain ⟨a2, dy, ys, rfl, ha2⟩ := l2.en e2 List.mem_cons_self
    refine ⟨a, dx, xs, a2, dy, ys, rfl, ha, rfl, ha2, sp_exc (vs := [.ref a, .ref a2]) (ws := [x, y]) (ta := ta) (kr := kr) (e2.held fun p hp => ?_) rfl hC (fun _ _ z => z) fun dx H' e3 => q dx H' (e3.perm ?_)⟩
    · rcases List.mem_append.mp hp with hp | hp
      · simp at hp
        rcases hp with rfl | rfl
        · exact List.mem_cons_of_mem _ List.mem_cons_self
        · exact List.mem_cons_self
      · exact List.mem_cons_of_mem _ (List.mem_cons_of_mem _ hp)
    · rw [List.append_assoc, List.append_assoc]
      exact List.Perm.append_left _ List.perm_append_comm
/-- a new value with its cells, frozen -/
theorem EvR.frzV {R : W → Cells → Prop} (h : EvR K te ro ka R) (hR : ∀ w k, R w k → ∃ a kt, w = .val (.adr a) ∧ (k1 ++ kt).Perm k ∧ (∀ p ∈ kt, ndK p.2 = true) ∧ FrzD K kt a d) : EvD K te ro ka (.val d) k1 := fun B F0 ta sg H Q e q =>
  h B F0 ta sg H Q e fun w k v H' p e1 => by
    obtain ⟨a, kt, rfl, s, kd, z⟩ := hR w k p
    have hv := e1.tm_adr (v := v) (a := a) List.mem_cons_self
    subst hv
    obtain ⟨F, g, ef⟩ := e1.perm s
    have th := (show EnF K B F ro (k1 ++ kt) _ sg H' from ef).thw kd
    obtain ⟨g2, e2⟩ := ef.frzT kd RoT.refl
    exact q _ _ ⟨_, g.trans g2, (e2.held (ta' := ta) fun p hp => List.mem_cons_of_mem _ hp).push (z F H' ef.nz th)⟩
end
section
variable {K : PySem.W.Frag} {B F0 : Hp} {ro : Ro} {ka k1 k2 k3 kr : Cells} {ta : List (V × W)} {td te tf ty tx : TE} {De De' : Ends} {t u : TS} {w x y : W} {b b2 : Bool} {C C1 : Addr} {fs gs hs : List (Str × D)} {d : D}
/-- a reading that knows the slots -/
theorem EvR.atS {tf : L2.St → TE} {P : W → Cells → Prop} (h : ∀ sg, EvR K (tf sg) ro ka P) : EvR K (tAtS tf) ro ka P := fun B F0 ta sg H Q e q => h sg B F0 ta sg H Q e q
theorem EvD.atS {tf : L2.St → TE} (h : ∀ sg, EvD K (tf sg) ro ka w k1) : EvD K (tAtS tf) ro ka w k1 := fun B F0 ta sg H Q e q => h sg B F0 ta sg H Q e q
/-- what the one clause of a try, with a name, wants -/
abbrev HndS (K : PySem.W.Frag) (B F0 : Hp) (ta : List (V × W)) (De : Ends) (i : Nat) (ts : Addr → Value → Option Addr → TS) (C1 : Addr) (gs : List (Str × D)) (ro : Ro) (k2 : Cells) : Prop :=
  ∀ a dx, Gp K B F0 ta (ts a (.ref C1) (some dx) { nx := fun σ' H' => De.nx (σ'.set i none) H', rt := De.rt, bk := fun σ' H' => De.bk (σ'.set i none) H', ct := fun σ' H' => De.ct (σ'.set i none) H' }) (ro.set i (some (.val (.adr a)))) (k2 ++ [(dx, .xd gs)])
/-- x = e, e raises -/
theorem g_asgXS {c : Value} {i : Nat} {ts : Addr → Value → Option Addr → TS} {Wout : WX} {tg : TG} {tf : L2.St → TE} (h : ∀ sg, EvX K (tf sg) ro ka (WE (wAs K c i ts Wout De) sg) C1 gs k2) (hx : exmOne K (.ref C1) c = some true)
    (hs : HndS K B F0 ta De i ts C1 gs ro k2) : Gp K B F0 ta (tAsg (tAtS tf) tg De') ro ka := fun sg H e =>
  h sg B F0 ta sg H _ e fun dx H' e' => ⟨true, hx, fun _ a _ => hs a dx _ _ (e'.setA i a), fun z => by cases z⟩
end
end DL

/-! EY: patterns as trees, their words, the machine of atoms (own work). -/
namespace DL
open PySem L2 PySem.W
/-- a pattern: an atom (one of some names, or none of them), two behind one another, either, any number, one or none -/
inductive Tr where
  | at (any : Bool) (ns : List Str) | join (a b : Tr) | either (a b : Tr) | rep (a : Tr) | opt (a : Tr)
def kdS : Bool → Str
  | true => "any"
  | false => "none"
/-- as the program holds it (names a tuple), as the law holds it (names a list) -/
def Tr.d (law : Bool) : Tr → D
  | .at k ns => .tup [.str (kdS k), if law then .lst (stD ns) else .tup (stD ns)]
  | .join a b => .tup [.str "join", a.d law, b.d law]
  | .either a b => .tup [.str "either", a.d law, b.d law]
  | .rep a => .tup [.str "repeat", a.d law]
  | .opt a => .tup [.str "option", a.d law]
/-- nested operators -/
def Tr.dep : Tr → Nat
  | .at _ _ => 0
  | .join a b => max a.dep b.dep + 1
  | .either a b => max a.dep b.dep + 1
  | .rep a => a.dep + 1
  | .opt a => a.dep + 1
/-- an atom takes a name -/
def atB (p : Bool × List Str) (x : Str) : Bool := decide (x ∈ p.2) == p.1
/-- any number of words one behind another -/
inductive Str_ (P : List Str → Prop) : List Str → Prop where
  | nil : Str_ P []
  | snoc {u z : List Str} (h : Str_ P u) (hz : P z) : Str_ P (u ++ z)
/-- the words of a pattern -/
def Lg : Tr → List Str → Prop
  | .at k ns, w => ∃ x, w = [x] ∧ atB (k, ns) x = true
  | .join a b, w => ∃ u v, w = u ++ v ∧ Lg a u ∧ Lg b v
  | .either a b, w => Lg a w ∨ Lg b w
  | .rep a, w => Str_ (Lg a) w
  | .opt a, w => w = [] ∨ Lg a w
/-- the machine: atoms, first and last ones, pairs, has it the empty word -/
structure Mc where
  at_ : List (Bool × List Str)
  fi : List Nat
  la : List Nat
  pr : List (Nat × Nat)
  op : Bool
def crN (xs ys : List Nat) : List (Nat × Nat) := xs.flatMap fun x => ys.map fun y => (x, y)
theorem crN_mem {xs ys : List Nat} {x y : Nat} : (x, y) ∈ crN xs ys ↔ x ∈ xs ∧ y ∈ ys := by
  unfold crN
  rw [List.mem_flatMap]
  constructor
  · rintro ⟨a, ha, h⟩
    obtain ⟨b, hb, e⟩ := List.mem_map.mp h
    cases e
    exact ⟨ha, hb⟩
  · rintro ⟨hx, hy⟩
    exact ⟨x, hx, List.mem_map.mpr ⟨y, hy, rfl⟩⟩
def mcT : Tr → Nat → Mc
  | .at k ns, s => ⟨[(k, ns)], [s], [s], [], false⟩
  | .rep a, s => let m := mcT a s; ⟨m.at_, m.fi, m.la, m.pr ++ crN m.la m.fi, true⟩
  | .opt a, s => let m := mcT a s; ⟨m.at_, m.fi, m.la, m.pr, true⟩
  | .either a b, s => let m := mcT a s; let n := mcT b (s + m.at_.length); ⟨m.at_ ++ n.at_, m.fi ++ n.fi, m.la ++ n.la, m.pr ++ n.pr, m.op || n.op⟩
  | .join a b, s => let m := mcT a s; let n := mcT b (s + m.at_.length)
    ⟨m.at_ ++ n.at_, if m.op then m.fi ++ n.fi else m.fi, if n.op then m.la ++ n.la else n.la, m.pr ++ n.pr ++ crN m.la n.fi, m.op && n.op⟩
/-- a way through the machine that reads w and ends at an atom -/
inductive Pth (T : Nat → Str → Bool) (fi : List Nat) (pr : List (Nat × Nat)) : List Str → Nat → Prop where
  | one {a : Nat} {x : Str} (h : a ∈ fi) (t : T a x = true) : Pth T fi pr [x] a
  | more {w : List Str} {a b : Nat} {x : Str} (h : Pth T fi pr w a) (hp : (a, b) ∈ pr) (t : T b x = true) : Pth T fi pr (w ++ [x]) b
theorem Pth.ne {T : Nat → Str → Bool} {fi : List Nat} {pr : List (Nat × Nat)} {w : List Str} {a : Nat} (h : Pth T fi pr w a) : w ≠ [] := by
  cases h <;> simp
/-- atoms within lo ≤ .. < hi -/
structure McR (m : Mc) (lo hi : Nat) : Prop where
  fi : ∀ a ∈ m.fi, lo ≤ a ∧ a < hi
  la : ∀ a ∈ m.la, lo ≤ a ∧ a < hi
  pr : ∀ p ∈ m.pr, (lo ≤ p.1 ∧ p.1 < hi) ∧ lo ≤ p.2 ∧ p.2 < hi
theorem McR.wide {m : Mc} {lo hi lo' hi' : Nat} (r : McR m lo hi) (h1 : lo' ≤ lo) (h2 : hi ≤ hi') : McR m lo' hi' :=
  ⟨fun a h => by have := r.fi a h; omega, fun a h => by have := r.la a h; omega, fun p h => by have := r.pr p h; omega⟩
theorem crN_r {xs ys : List Nat} {lo hi : Nat} (hx : ∀ a ∈ xs, lo ≤ a ∧ a < hi) (hy : ∀ a ∈ ys, lo ≤ a ∧ a < hi) : ∀ p ∈ crN xs ys, (lo ≤ p.1 ∧ p.1 < hi) ∧ lo ≤ p.2 ∧ p.2 < hi := by
  rintro ⟨x, y⟩ h
  have h' := crN_mem.mp h
  exact ⟨hx x h'.1, hy y h'.2⟩
theorem mcT_r : ∀ (t : Tr) (s : Nat), McR (mcT t s) s (s + (mcT t s).at_.length)
  | .at k ns, s => ⟨fun a h => by have e : a = s := List.mem_singleton.mp h; subst e; exact ⟨Nat.le_refl _, Nat.lt_succ_self _⟩, fun a h => by have e : a = s := List.mem_singleton.mp h; subst e; exact ⟨Nat.le_refl _, Nat.lt_succ_self _⟩, fun p h => by cases h⟩
  | .rep a, s => by
    have r := mcT_r a s
    refine ⟨r.fi, r.la, fun p h => ?_⟩
    rcases List.mem_append.mp h with h | h
    · exact r.pr p h
    · exact crN_r r.la r.fi p h
  | .opt a, s => by
    have r := mcT_r a s
    exact ⟨r.fi, r.la, r.pr⟩
  | .either a b, s => by
    have r1 := mcT_r a s
    have r2 := mcT_r b (s + (mcT a s).at_.length)
    have e : (mcT (.either a b) s).at_.length = (mcT a s).at_.length + (mcT b (s + (mcT a s).at_.length)).at_.length := List.length_append
    rw [e]
    have w1 := r1.wide (lo' := s) (hi' := s + ((mcT a s).at_.length + (mcT b (s + (mcT a s).at_.length)).at_.length)) (Nat.le_refl _) (by omega)
    have w2 := r2.wide (lo' := s) (hi' := s + ((mcT a s).at_.length + (mcT b (s + (mcT a s).at_.length)).at_.length)) (by omega) (by omega)
    exact ⟨fun x h => (List.mem_append.mp h).elim (w1.fi x) (w2.fi x), fun x h => (List.mem_append.mp h).elim (w1.la x) (w2.la x), fun p h => (List.mem_append.mp h).elim (w1.pr p) (w2.pr p)⟩
  | .join a b, s => by
    have r1 := mcT_r a s
    have r2 := mcT_r b (s + (mcT a s).at_.length)
    have e : (mcT (.join a b) s).at_.length = (mcT a s).at_.length + (mcT b (s + (mcT a s).at_.length)).at_.length := List.length_append
    rw [e]
    have w1 := r1.wide (lo' := s) (hi' := s + ((mcT a s).at_.length + (mcT b (s + (mcT a s).at_.length)).at_.length)) (Nat.le_refl _) (by omega)
    have w2 := r2.wide (lo' := s) (hi' := s + ((mcT a s).at_.length + (mcT b (s + (mcT a s).at_.length)).at_.length)) (by omega) (by omega)
    refine ⟨fun x h => ?_, fun x h => ?_, fun p h => ?_⟩
    · have h : x ∈ (if (mcT a s).op then (mcT a s).fi ++ (mcT b (s + (mcT a s).at_.length)).fi else (mcT a s).fi) := h
      split at h
      · exact (List.mem_append.mp h).elim (w1.fi x) (w2.fi x)
      · exact w1.fi x h
    · have h : x ∈ (if (mcT b (s + (mcT a s).at_.length)).op then (mcT a s).la ++ (mcT b (s + (mcT a s).at_.length)).la else (mcT b (s + (mcT a s).at_.length)).la) := h
      split at h
      · exact (List.mem_append.mp h).elim (w1.la x) (w2.la x)
      · exact w2.la x h
    · rcases List.mem_append.mp h with h | h
      · exact (List.mem_append.mp h).elim (w1.pr p) (w2.pr p)
      · exact crN_r w1.la w2.fi p h
section
variable {T : Nat → Str → Bool} {fi fi2 fi' : List Nat} {pr pr2 pr' : List (Nat × Nat)} {w u v : List Str} {a c : Nat}
theorem Pth.mono (h : Pth T fi pr w c) (h1 : ∀ a ∈ fi, a ∈ fi') (h2 : ∀ p ∈ pr, p ∈ pr') : Pth T fi' pr' w c := by
  induction h with
  | one h t => exact .one (h1 _ h) t
  | more h hp t ih => exact .more ih (h2 _ hp) t
theorem Pth.res {R : Nat → Prop} (h : Pth T fi' pr' w c) (h1 : ∀ a ∈ fi', R a → a ∈ fi) (h2 : ∀ a b, (a, b) ∈ pr' → R b → (a, b) ∈ pr ∧ R a) (hc : R c) : Pth T fi pr w c := by
  induction h with
  | one h t => exact .one (h1 _ h hc) t
  | more h hp t ih => exact .more (ih (h2 _ _ hp hc).2) (h2 _ _ hp hc).1 t
theorem Pth.cat (h : Pth T fi' pr' u a) (h1 : ∀ b ∈ fi2, (a, b) ∈ pr') (h2 : ∀ p ∈ pr2, p ∈ pr') (g : Pth T fi2 pr2 v c) : Pth T fi' pr' (u ++ v) c := by
  induction g with
  | one hb t => exact .more h (h1 _ hb) t
  | more g hp t ih =>
    rw [← List.append_assoc]
    exact .more ih (h2 _ hp) t
end
theorem glu : ∀ (t : Tr) (s : Nat) (T : Nat → Str → Bool), (∀ i p, (mcT t s).at_[i]? = some p → ∀ x, T (s + i) x = atB p x) → ∀ w, Lg t w ↔ (w = [] ∧ (mcT t s).op = true) ∨ ∃ a ∈ (mcT t s).la, Pth T (mcT t s).fi (mcT t s).pr w a
  | .at k ns, s, T, hT, w => by
    have t0 : ∀ x, T s x = atB (k, ns) x := hT 0 (k, ns) rfl
    constructor
    · rintro ⟨x, rfl, h⟩
      exact .inr ⟨s, List.mem_singleton.mpr rfl, .one (List.mem_singleton.mpr rfl) (by rw [t0]; exact h)⟩
    · rintro (⟨_, h⟩ | ⟨a, ha, h⟩)
      · cases h
      · cases h with
        | one h1 t =>
          have e : a = s := List.mem_singleton.mp h1
          subst e
          exact ⟨_, rfl, by rw [← t0]; exact t⟩
        | more h hp t => cases hp
  | .opt a, s, T, hT, w => by
    have ih := glu a s T hT w
    constructor
    · rintro (rfl | h)
      · exact .inl ⟨rfl, rfl⟩
      · rcases ih.mp h with ⟨rfl, _⟩ | h
        · exact .inl ⟨rfl, rfl⟩
        · exact .inr h
    · rintro (⟨rfl, _⟩ | h)
      · exact .inl rfl
      · exact .inr (ih.mpr (.inr h))
  | .either a b, s, T, hT, w => by
    have r1 := mcT_r a s
    have r2 := mcT_r b (s + (mcT a s).at_.length)
    have ih1 := glu a s T (fun i p h => hT i p (by
      show ((mcT a s).at_ ++ _)[i]? = some p
      rw [List.getElem?_append_left (List.getElem?_eq_some_iff.mp h).1]; exact h)) w
    have ih2 := glu b (s + (mcT a s).at_.length) T (fun i p h x => by
      rw [Nat.add_assoc]
      refine hT _ p ?_ x
      show ((mcT a s).at_ ++ _)[_]? = some p
      rw [List.getElem?_append_right (by omega), Nat.add_sub_cancel_left]; exact h) w
    constructor
    · rintro (h | h)
      · rcases ih1.mp h with ⟨rfl, o⟩ | ⟨c, hc, h⟩
        · exact .inl ⟨rfl, by show ((mcT a s).op || _) = true; rw [o]; rfl⟩
        · exact .inr ⟨c, List.mem_append_left _ hc, h.mono (fun _ => List.mem_append_left _) fun _ => List.mem_append_left _⟩
      · rcases ih2.mp h with ⟨rfl, o⟩ | ⟨c, hc, h⟩
        · exact .inl ⟨rfl, by show (_ || (mcT b (s + (mcT a s).at_.length)).op) = true; rw [o]; exact Bool.or_true _⟩
        · exact .inr ⟨c, List.mem_append_right _ hc, h.mono (fun _ => List.mem_append_right _) fun _ => List.mem_append_right _⟩
    · rintro (⟨rfl, o⟩ | ⟨c, hc, h⟩)
      · rcases Bool.or_eq_true_iff.mp (show ((mcT a s).op || (mcT b (s + (mcT a s).at_.length)).op) = true from o) with o | o
        · exact .inl (ih1.mpr (.inl ⟨rfl, o⟩))
        · exact .inr (ih2.mpr (.inl ⟨rfl, o⟩))
      · rcases List.mem_append.mp hc with hc | hc
        · refine .inl (ih1.mpr (.inr ⟨c, hc, h.res (R := fun x => x < s + (mcT a s).at_.length) (fun x hx lt => ?_) (fun x y hp lt => ?_) (r1.la c hc).2⟩))
          · exact (List.mem_append.mp hx).elim id fun z => absurd (r2.fi x z).1 (by omega)
          · rcases List.mem_append.mp hp with hp | hp
            · exact ⟨hp, (r1.pr _ hp).1.2⟩
            · exact absurd (r2.pr _ hp).2.1 (by show ¬ _ ≤ y; omega)
        · refine .inr (ih2.mpr (.inr ⟨c, hc, h.res (R := fun x => s + (mcT a s).at_.length ≤ x) (fun x hx le => ?_) (fun x y hp le => ?_) (r2.la c hc).1⟩))
          · exact (List.mem_append.mp hx).elim (fun z => absurd (r1.fi x z).2 (by omega)) id
          · rcases List.mem_append.mp hp with hp | hp
            · exact absurd (r1.pr _ hp).2.2 (by show ¬ y < _; omega)
            · exact ⟨hp, (r2.pr _ hp).1.1⟩
  | .rep a, s, T, hT, w => by
    have ih := glu a s T hT
    have up : ∀ {u : List Str} {c : Nat}, Pth T (mcT a s).fi (mcT a s).pr u c → Pth T (mcT a s).fi ((mcT a s).pr ++ crN (mcT a s).la (mcT a s).fi) u c := fun h => h.mono (fun _ z => z) fun _ z => List.mem_append_left _ z
    have fwd : ∀ {u : List Str}, Str_ (Lg a) u → u = [] ∨ ∃ c ∈ (mcT a s).la, Pth T (mcT a s).fi ((mcT a s).pr ++ crN (mcT a s).la (mcT a s).fi) u c := fun h => by
      induction h with
      | nil => exact .inl rfl
      | @snoc u z h hz ihu =>
        rcases (ih z).mp hz with ⟨rfl, _⟩ | ⟨c, hc, pz⟩
        · rw [List.append_nil]
          exact ihu
        · rcases ihu with rfl | ⟨d, hd, pu⟩
          · exact .inr ⟨c, hc, by rw [List.nil_append]; exact up pz⟩
          · exact .inr ⟨c, hc, pu.cat (fun b hb => List.mem_append_right _ (crN_mem.mpr ⟨hd, hb⟩)) (fun _ z => List.mem_append_left _ z) pz⟩
    have back : ∀ {u : List Str} {c : Nat}, Pth T (mcT a s).fi ((mcT a s).pr ++ crN (mcT a s).la (mcT a s).fi) u c → ∃ u1 u2, u = u1 ++ u2 ∧ Str_ (Lg a) u1 ∧ Pth T (mcT a s).fi (mcT a s).pr u2 c := fun h => by
      induction h with
      | one h t => exact ⟨[], _, rfl, .nil, .one h t⟩
      | @more w x y z h hp t ihw =>
        obtain ⟨u1, u2, rfl, s1, p2⟩ := ihw
        rcases List.mem_append.mp hp with hp | hp
        · exact ⟨u1, u2 ++ [z], List.append_assoc _ _ _, s1, .more p2 hp t⟩
        · have hp' := crN_mem.mp hp
          exact ⟨u1 ++ u2, [z], rfl, .snoc s1 ((ih u2).mpr (.inr ⟨x, hp'.1, p2⟩)), .one hp'.2 t⟩
    constructor
    · intro h
      rcases fwd h with rfl | h
      · exact .inl ⟨rfl, rfl⟩
      · exact .inr h
    · rintro (⟨rfl, _⟩ | ⟨c, hc, h⟩)
      · exact .nil
      · obtain ⟨u1, u2, rfl, s1, p2⟩ := back h
        exact .snoc s1 ((ih u2).mpr (.inr ⟨c, hc, p2⟩))
  | .join a b, s, T, hT, w => by
    have r1 := mcT_r a s
    have r2 := mcT_r b (s + (mcT a s).at_.length)
    have ih1 := glu a s T (fun i p h => hT i p (by
      show ((mcT a s).at_ ++ _)[i]? = some p
      rw [List.getElem?_append_left (List.getElem?_eq_some_iff.mp h).1]; exact h))
    have ih2 := glu b (s + (mcT a s).at_.length) T (fun i p h x => by
      rw [Nat.add_assoc]
      refine hT _ p ?_ x
      show ((mcT a s).at_ ++ _)[_]? = some p
      rw [List.getElem?_append_right (by omega), Nat.add_sub_cancel_left]; exact h)
    generalize hm : mcT a s = m at *
    generalize hn : mcT b (s + m.at_.length) = n at *
    have eF : (mcT (.join a b) s).fi = if m.op then m.fi ++ n.fi else m.fi := by subst hm hn; rfl
    have eL : (mcT (.join a b) s).la = if n.op then m.la ++ n.la else n.la := by subst hm hn; rfl
    have eP : (mcT (.join a b) s).pr = m.pr ++ n.pr ++ crN m.la n.fi := by subst hm hn; rfl
    have eO : (mcT (.join a b) s).op = (m.op && n.op) := by subst hm hn; rfl
    rw [eF, eL, eP, eO]
    have inF : ∀ x ∈ m.fi, x ∈ (if m.op then m.fi ++ n.fi else m.fi) := fun x h => by
      split
      · exact List.mem_append_left _ h
      · exact h
    have upA : ∀ {u : List Str} {c : Nat}, Pth T m.fi m.pr u c → Pth T (if m.op then m.fi ++ n.fi else m.fi) (m.pr ++ n.pr ++ crN m.la n.fi) u c := fun h => h.mono inF fun _ z => List.mem_append_left _ (List.mem_append_left _ z)
    have inB : ∀ x ∈ n.la, x ∈ (if n.op then m.la ++ n.la else n.la) := fun x h => by
      split
      · exact List.mem_append_right _ h
      · exact h
    have low : ∀ {u : List Str} {c : Nat}, c < s + m.at_.length → Pth T (if m.op then m.fi ++ n.fi else m.fi) (m.pr ++ n.pr ++ crN m.la n.fi) u c → Pth T m.fi m.pr u c := fun hc h => h.res (R := fun x => x < s + m.at_.length) (fun x hx lt => by
        split at hx
        · exact (List.mem_append.mp hx).elim id fun z => absurd (r2.fi x z).1 (by omega)
        · exact hx) (fun x y hp lt => by
        rcases List.mem_append.mp hp with hp | hp
        · rcases List.mem_append.mp hp with hp | hp
          · exact ⟨hp, (r1.pr _ hp).1.2⟩
          · exact absurd (r2.pr _ hp).2.1 (by show ¬ _ ≤ y; omega)
        · exact absurd (r2.fi y (crN_mem.mp hp).2).1 (by omega)) hc
    have high : ∀ {u : List Str} {c : Nat}, Pth T (if m.op then m.fi ++ n.fi else m.fi) (m.pr ++ n.pr ++ crN m.la n.fi) u c → s + m.at_.length ≤ c → ∃ u1 u2, u = u1 ++ u2 ∧ Lg a u1 ∧ Pth T n.fi n.pr u2 c := fun h => by
      induction h with
      | @one x y h t =>
        intro le
        split at h
        · rename_i o
          rcases List.mem_append.mp h with h | h
          · exact absurd (r1.fi x h).2 (by omega)
          · exact ⟨[], _, rfl, (ih1 []).mpr (.inl ⟨rfl, o⟩), .one h t⟩
        · exact absurd (r1.fi x h).2 (by omega)
      | @more w x y z h hp t ihw =>
        intro le
        rcases List.mem_append.mp hp with hp | hp
        · rcases List.mem_append.mp hp with hp | hp
          · exact absurd (r1.pr _ hp).2.2 (by show ¬ y < _; omega)
          · obtain ⟨u1, u2, rfl, l1, p2⟩ := ihw (r2.pr _ hp).1.1
            exact ⟨u1, u2 ++ [z], List.append_assoc _ _ _, l1, .more p2 hp t⟩
        · have hp' := crN_mem.mp hp
          exact ⟨w, [z], rfl, (ih1 w).mpr (.inr ⟨x, hp'.1, low (r1.la x hp'.1).2 h⟩), .one hp'.2 t⟩
    constructor
    · rintro ⟨u, v, rfl, hu, hv⟩
      rcases (ih1 u).mp hu with ⟨rfl, o1⟩ | ⟨c, hc, pu⟩
      · rcases (ih2 v).mp hv with ⟨rfl, o2⟩ | ⟨d, hd, pv⟩
        · exact .inl ⟨rfl, by rw [o1, o2]; rfl⟩
        · refine .inr ⟨d, inB d hd, ?_⟩
          rw [List.nil_append]
          refine pv.mono (fun x h => ?_) fun _ z => List.mem_append_left _ (List.mem_append_right _ z)
          rw [if_pos o1]
          exact List.mem_append_right _ h
      · rcases (ih2 v).mp hv with ⟨rfl, o2⟩ | ⟨d, hd, pv⟩
        · refine .inr ⟨c, ?_, by rw [List.append_nil]; exact upA pu⟩
          rw [if_pos o2]
          exact List.mem_append_left _ hc
        · exact .inr ⟨d, inB d hd, (upA pu).cat (fun b hb => List.mem_append_right _ (crN_mem.mpr ⟨hc, hb⟩)) (fun _ z => List.mem_append_left _ (List.mem_append_right _ z)) pv⟩
    · rintro (⟨rfl, o⟩ | ⟨c, hc, h⟩)
      · obtain ⟨o1, o2⟩ := Bool.and_eq_true_iff.mp o
        exact ⟨[], [], rfl, (ih1 []).mpr (.inl ⟨rfl, o1⟩), (ih2 []).mpr (.inl ⟨rfl, o2⟩)⟩
      · have two : c ∈ n.la → Lg (.join a b) w := fun hc => by
          obtain ⟨u1, u2, rfl, l1, p2⟩ := high h (r2.la c hc).1
          exact ⟨u1, u2, rfl, l1, (ih2 u2).mpr (.inr ⟨c, hc, p2⟩)⟩
        split at hc
        · rename_i o2
          rcases List.mem_append.mp hc with hc | hc
          · exact ⟨w, [], (List.append_nil w).symm, (ih1 w).mpr (.inr ⟨c, hc, low (r1.la c hc).2 h⟩), (ih2 []).mpr (.inl ⟨rfl, o2⟩)⟩
          · exact two hc
        · exact two hc
/-! ### the machine run -/
def tkM (m : Mc) (a : Nat) (x : Str) : Bool := match m.at_[a]? with
  | some p => atB p x
  | none => false
def behM (m : Mc) (ps : List Nat) (a : Nat) : Bool := ps.any fun p => decide ((p, a) ∈ m.pr)
def startM (m : Mc) (x : Str) : List Nat := m.fi.filter fun a => tkM m a x
def afterM (m : Mc) (ps : List Nat) (x : Str) : List Nat := (List.range m.at_.length).filter fun a => tkM m a x && behM m ps a
def doneM (m : Mc) (ps : List Nat) : Bool := ps.any fun p => decide (p ∈ m.la)
def runM (m : Mc) : List Str → List Nat
  | [] => []
  | x :: r => r.foldl (afterM m) (startM m x)
def accM (m : Mc) (w : List Str) : Bool := if w = [] then m.op else doneM m (runM m w)
theorem tkM_lt {m : Mc} {a : Nat} {x : Str} (h : tkM m a x = true) : a < m.at_.length := by
  unfold tkM at h
  cases e : m.at_[a]? with
  | none => rw [e] at h; cases h
  | some p => exact (List.getElem?_eq_some_iff.mp e).1
theorem after_mem {m : Mc} {ps : List Nat} {x : Str} {b : Nat} : b ∈ afterM m ps x ↔ tkM m b x = true ∧ ∃ a ∈ ps, (a, b) ∈ m.pr := by
  unfold afterM
  rw [List.mem_filter, List.mem_range, Bool.and_eq_true, behM, List.any_eq_true]
  constructor
  · rintro ⟨_, h1, a, ha, h2⟩
    exact ⟨h1, a, ha, of_decide_eq_true h2⟩
  · rintro ⟨h1, a, ha, h2⟩
    exact ⟨tkM_lt h1, h1, a, ha, decide_eq_true h2⟩
theorem run_snoc {m : Mc} {w : List Str} {x : Str} (h : w ≠ []) : runM m (w ++ [x]) = afterM m (runM m w) x := by
  cases w with
  | nil => exact absurd rfl h
  | cons y r =>
    show (r ++ [x]).foldl _ _ = _
    rw [List.foldl_append]
    rfl
theorem run_mem {m : Mc} : ∀ {w : List Str} {a : Nat}, w ≠ [] → (a ∈ runM m w ↔ Pth (tkM m) m.fi m.pr w a) := fun {w} => by
  induction w using list_snoc_ind with
  | nil => intro a h; exact absurd rfl h
  | snoc w x ih =>
    intro a _
    by_cases e : w = []
    · subst e
      show a ∈ m.fi.filter _ ↔ _
      rw [List.mem_filter]
      constructor
      · rintro ⟨h1, h2⟩
        exact .one h1 h2
      · intro h
        generalize hw : [] ++ [x] = u at h
        cases h with
        | one h t => cases hw; exact ⟨h, t⟩
        | more h hp t => exact absurd (List.append_inj_left' hw rfl).symm h.ne
    · rw [run_snoc e, after_mem]
      constructor
      · rintro ⟨h1, b, hb, h2⟩
        exact .more ((ih e).mp hb) h2 h1
      · intro h
        generalize hw : w ++ [x] = u at h
        cases h with
        | one h t =>
          have z := List.append_inj_left' (hw.trans (List.nil_append _).symm) rfl
          exact absurd z e
        | more h hp t =>
          have z1 := List.append_inj_left' hw rfl
          have z2 := List.append_inj_right' hw rfl
          cases z2
          subst z1
          exact ⟨t, _, (ih e).mpr h, hp⟩
theorem acc_iff {t : Tr} {w : List Str} : accM (mcT t 0) w = true ↔ Lg t w := by
  rw [glu t 0 (tkM (mcT t 0)) (fun i p h x => by unfold tkM; rw [Nat.zero_add, h]) w]
  unfold accM
  by_cases e : w = []
  · subst e
    rw [if_pos rfl]
    constructor
    · intro h
      exact .inl ⟨rfl, h⟩
    · rintro (⟨_, h⟩ | ⟨a, _, h⟩)
      · exact h
      · exact absurd rfl h.ne
  · rw [if_neg e, doneM, List.any_eq_true]
    constructor
    · rintro ⟨a, ha, h⟩
      exact .inr ⟨a, of_decide_eq_true h, (run_mem e).mp ha⟩
    · rintro (⟨z, _⟩ | ⟨a, ha, h⟩)
      · exact absurd z e
      · exact ⟨a, (run_mem e).mpr h, decide_eq_true ha⟩
end DL

/-! EZ: pairs of numbers as keys (own work). -/
namespace DL
open PySem L2 PySem.W
/-! ### data: keys are pairs of numbers -/
def isII : List Value → Bool
  | [.int _ _, .int _ _] => true
  | _ => false
/-- no tuple of the text is a pair of numbers -/
def NoP (K : PySem.W.Frag) : Prop := ∀ (a : Addr) (o : Obj) (its : Array Value) (n : Nat), K.lookup a = some o → o.cls = .type "tuple" → o.data = .seq its n → isII its.toList = false
def noP1 : Obj → Bool
  | ⟨.type T, _, .seq its _, _⟩ => !(decide (T = "tuple") && isII its.toList)
  | _ => true
def fNoP : Fx := fun K => K.all fun p => noP1 p.2
theorem noP_ok {K : PySem.W.Frag} (h : fNoP K = true) : NoP K := fun a o its n hl hc hd => by
  have hm : ∀ {K : PySem.W.Frag}, K.lookup a = some o → (a, o) ∈ K := fun {K} => by
    induction K with
    | nil => intro h; cases h
    | cons p r ih =>
      obtain ⟨b, x⟩ := p
      intro h
      rw [List.lookup_cons] at h
      split at h
      · rename_i q
        cases h
        rw [beq_iff_eq.mp q]
        exact List.mem_cons_self
      · exact List.mem_cons_of_mem _ (ih h)
  have := List.all_eq_true.mp h _ (hm hl)
  obtain ⟨cls, dict, data, sl⟩ := o
  cases hc
  cases hd
  have t : (!(decide (("tuple" : String) = "tuple") && isII its.toList)) = true := this
  cases e : isII its.toList with
  | false => rfl
  | true => rw [e] at t; cases t
section
variable {K : PySem.W.Frag} {B F F0 : Hp} {ro : Ro} {ka k1 k2 k3 kr : Cells} {ta : List (V × W)} {sg : L2.St} {H H' : Hp} {te tf tg td ty tk tv : TE} {tt : TT} {w : W} {a : Addr} {b : Bool}
theorem sq_pair {i j : Int} (np : NoP K) (h : SqT K F a [.int i, .int j]) : Rd F a (.tup [.int i, .int j]) := by
  rcases h with h | ⟨o, its, n, h1, h2, h3, _, h4⟩
  · exact h
  · exfalso
    have z := np a o its n h1 h2 h3
    generalize its.toList = l at z h4
    cases h4 with
    | cons r1 t =>
      cases t with
      | cons r2 t2 =>
        cases t2
        obtain ⟨_, rfl⟩ := r1
        obtain ⟨_, rfl⟩ := r2
        cases z
theorem rd_tup {xs : List V} (n : Nz F) (e : Exz F H) (h : Rd F a (.tup xs)) : H a = some (.tup xs) := by
  rcases h with h | ⟨o, h⟩
  · exact e.at h rfl
  · have := n a _ h
    cases this
/-- a pair of numbers as a key -/
def prK (p : Nat × Nat) : List Key := [.inl (p.1 : Int), .inl (p.2 : Int)]
def prD (p : Nat × Nat) : D := .tup [.int (p.1 : Int), .int (p.2 : Int)]
theorem pr_at {p : Nat × Nat} {v : V} (np : NoP K) (e : EnF K B F ro ka ta sg H) (h : WOk K B F v (.val (prD p))) : ∃ a, v = .ref a ∧ H a = some (.tup ((prK p).map kV)) := by
  obtain ⟨a, xs, rfl, h1, x, ys, rfl, hx, y, zs, rfl, hy, hz⟩ := h
  cases hx
  cases hy
  cases hz
  exact ⟨a, rfl, rd_tup e.nz e.fz (sq_pair np h1)⟩
/-- (i, j) in d -/
theorem ev_dinP {p : Nat × Nat} {ds : List (List Key × D)} (np : NoP K) (h : EvD K ty ro ka (.val (prD p)) k1) (h2 : EvD K td ro k1 (.val (.dit ds)) k2) : EvD K (tDIn ty td) ro ka (.val (.bl (getT ds (prK p)).isSome)) k2 := fun B F0 ta sg H Q e q =>
  h B F0 ta sg H _ e fun u H1 e1 => h2 B F0 _ sg H1 _ e1 fun v H2 e2 => by
    obtain ⟨F, g, ef⟩ := id e2
    obtain ⟨c, rfl, hc⟩ := pr_at np ef (ef.tm (u, .val (prD p)) (List.mem_cons_of_mem _ List.mem_cons_self))
    obtain ⟨a, xs, rfl, h3, h4⟩ := ef.tm (v, .val (.dit ds)) List.mem_cons_self
    have hg := (rpt_pt.mp h4).get (prK p)
    refine ⟨a, getT xs (prK p), rfl, .inr ⟨xs, prK p, c, ef.fz.rd ef.nz h3, rfl, hc, rfl⟩, q _ _ ?_⟩
    have e5 := (e2.held (ta' := ta) fun p hp => List.mem_cons_of_mem _ (List.mem_cons_of_mem _ hp)).push_imm (v := .bl (getT xs (prK p)).isSome) (w := .val (.bl (getT xs (prK p)).isSome)) fun _ => rfl
    cases hd : getT ds (prK p) with
    | none => rw [hg.1 hd] at e5 ⊢; exact e5
    | some d =>
      obtain ⟨x, hx, _⟩ := hg.2 d hd
      rw [hx] at e5 ⊢
      exact e5
end
end DL

/-! FA: a list comprehension with two fors, by data, for the library's reading tLc2 (own work). -/
namespace DL
open PySem L2 PySem.W
section
variable {K : PySem.W.Frag} {B F F0 : Hp} {ro : Ro} {ka k1 k2 k3 kr : Cells} {ta : List (V × W)} {sg : L2.St} {H H' : Hp} {te : TE}
/-- [d x y for x in .. for y in ..] -/
theorem evn_lc2 {α β : Type} {wi wi2 : TI} {xs : List α} {ys : List β} {f : α → W} {f2 : β → W} {d : α → β → D} {j j2 : Nat} {vs : List Nat} (h : EvI K wi ro ka (xs.map f) (fun _ => True) k1) (hj : j ∈ vs) (few : xs.length * ys.length < 100000)
    (h2 : ∀ x k, EvI K wi2 ((wipeR ro vs).set j (some (f x))) k (ys.map f2) (fun _ => True) k) (he : ∀ x y k, EvD K te (((wipeR ro vs).set j (some (f x))).set j2 (some (f2 y))) k (.val (d x y)) k) :
    EvN K (tLc2 wi (gName j) tYes wi2 (gName j2) tYes te vs [j2]) ro ka (.lst (xs.flatMap fun x => ys.map (d x))) k1 := fun B F0 ta sg H Q e q =>
  h B F0 ta sg H _ e fun J ta' H1 hta e1 hgo hst => fun Dl hD => by
    let acc : Nat → List D := fun i => (xs.take i).flatMap fun x => ys.map (d x)
    have alen : ∀ i, (acc i).length = (xs.take i).length * ys.length := fun i => by
      show ((xs.take i).flatMap fun x => ys.map (d x)).length = _
      generalize xs.take i = zs
      induction zs with
      | nil => simp
      | cons z zs ih =>
        rw [List.flatMap_cons, List.length_append, ih, List.length_map, List.length_cons, Nat.succ_mul]
        omega
    let P : Nat → Hp → Prop := fun i H => En K B F0 ro (k1 ++ [(Dl, .lst (acc i))]) ta' sg H
    have p0 : P 0 (upd H1 Dl (.lst [])) := by
      obtain ⟨F, g, e1⟩ := e1
      exact ⟨F, g, e1.cell (o := .lst []) hD (n := .lst []) ⟨[], upd_same, rfl⟩⟩
    have wl : (xs.map f).length = xs.length := List.length_map _
    have yl : (ys.map f2).length = ys.length := List.length_map _
    refine ⟨fun i m H => m = xs.length - i ∧ i ≤ xs.length ∧ P i H, ⟨xs.length, by simp, Nat.zero_le _, p0⟩, ?_⟩
    rintro i m H2 ⟨rfl, hi, e2⟩
    by_cases hlt : i < xs.length
    · have hx := List.getElem?_eq_getElem hlt
      generalize xs[i] = x at hx
      have hw : (xs.map f)[i]? = some (f x) := by rw [List.getElem?_map, hx]; rfl
      obtain ⟨g1, g2⟩ := hgo i _ ro (k1 ++ [(Dl, .lst (acc i))]) ta' sg H2 hw trivial (fun p hp => hp) e2
      refine .inr ⟨g1, P (i + 1), fun H' z => ⟨xs.length - (i + 1), by omega, rfl, hlt, z⟩, fun xv H3 y => ?_⟩
      have e3 := g2 xv H3 y
      refine ⟨wipe_set sg vs hj xv, ?_⟩
      obtain ⟨F3, gF3, eF3⟩ := e3
      have ln0 : sg.length = ro.length := by obtain ⟨_, _, e0⟩ := e; exact e0.ln
      have slots : ∀ {F : Hp}, Gr B F3 F → ∀ (a : Nat) w, ro[a]? = some (some w) → ∃ v, sg[a]? = some (some v) ∧ WOk K B F v w := fun {F} g a w ha => by
        obtain ⟨v, h1, h2⟩ := eF3.sl a w ha
        exact ⟨v, h1, wok_gr eF3.nz g h2⟩
      have e4 : En K B F3 ((wipeR ro vs).set j (some (f x))) (k1 ++ [(Dl, .lst (acc i))]) ta' ((wipe sg vs).set j (some xv)) H3 :=
        ⟨F3, Gr.refl _ _, ((wipe_en (vs := vs) eF3).set (eF3.tm _ List.mem_cons_self) j).held fun p hp => List.mem_cons_of_mem _ hp⟩
      show wi2 _ _ _
      refine h2 x _ B F3 ta' _ H3 _ e4 fun J2 ta2 H4 hta2 e5 hgo2 hst2 => ?_
      let P2 : Nat → Hp → Prop := fun n H => En K B F3 ((wipeR ro vs).set j (some (f x))) (k1 ++ [(Dl, .lst (acc i ++ (ys.take n).map (d x)))]) ta2 ((wipe sg vs).set j (some xv)) H
      have q0 : P2 0 H4 := by
        show En _ _ _ _ (k1 ++ [(Dl, .lst (acc i ++ []))]) _ _ _
        rw [List.append_nil]
        exact e5
      refine ⟨fun n m H => m = ys.length - n ∧ n ≤ ys.length ∧ P2 n H, ⟨ys.length, by simp, Nat.zero_le _, q0⟩, ?_⟩
      rintro n m2 H5 ⟨rfl, hn, e6⟩
      by_cases hlt2 : n < ys.length
      · have hy := List.getElem?_eq_getElem hlt2
        generalize ys[n] = y at hy
        have hw2 : (ys.map f2)[n]? = some (f2 y) := by rw [List.getElem?_map, hy]; rfl
        obtain ⟨g3, g4⟩ := hgo2 n _ _ _ ta2 _ H5 hw2 trivial (fun p hp => hp) e6
        refine .inr ⟨g3, P2 (n + 1), fun H' z => ⟨ys.length - (n + 1), by omega, rfl, hlt2, z⟩, fun yv H6 yy => ?_⟩
        obtain ⟨F4, gF4, eF4⟩ := g4 yv H6 yy
        refine ⟨wipe_set _ [j2] List.mem_cons_self yv, ?_⟩
        have e7 : En K B F4 (((wipeR ro vs).set j (some (f x))).set j2 (some (f2 y))) (k1 ++ [(Dl, .lst (acc i ++ (ys.take n).map (d x)))]) ta2 ((wipe ((wipe sg vs).set j (some xv)) [j2]).set j2 (some yv)) H6 := by
          have z : En K B F4 ((wipeR ((wipeR ro vs).set j (some (f x))) [j2]).set j2 (some (f2 y))) (k1 ++ [(Dl, .lst (acc i ++ (ys.take n).map (d x)))]) ta2 ((wipe ((wipe sg vs).set j (some xv)) [j2]).set j2 (some yv)) H6 :=
            ⟨F4, Gr.refl _ _, ((wipe_en (vs := [j2]) eF4).set (eF4.tm _ List.mem_cons_self) j2).held fun p hp => List.mem_cons_of_mem _ hp⟩
          have q : (wipeR ((wipeR ro vs).set j (some (f x))) [j2]).set j2 (some (f2 y)) = ((wipeR ro vs).set j (some (f x))).set j2 (some (f2 y)) := List.set_set ..
          exact q ▸ z
        show te _ _ _
        refine he x y _ B F4 ta2 _ H6 _ e7 fun z H7 ⟨F5, g5, e8⟩ => ?_
        have hc : (k1 ++ [(Dl, Nd.lst (acc i ++ (ys.take n).map (d x)))])[k1.length]? = some (Dl, Nd.lst (acc i ++ (ys.take n).map (d x))) := by simp
        obtain ⟨zs, h3, h4⟩ := (e8.ce _ (List.mem_of_getElem? hc)).2.2
        have hz := e8.tm (z, .val (d x y)) List.mem_cons_self
        have e9 := e8.write (o := .lst (zs ++ [z])) (n' := .lst (acc i ++ (ys.take n).map (d x) ++ [d x y])) hc ⟨_, upd_same, rpl_app h4 ⟨z, [], rfl, hz, rfl⟩⟩
        rw [List.set_append_right _ _ (Nat.le_refl _), Nat.sub_self] at e9
        have grow : acc i ++ (ys.take (n + 1)).map (d x) = acc i ++ (ys.take n).map (d x) ++ [d x y] := by
          rw [take_succ_some hy, List.map_append, List.append_assoc]
          rfl
        refine ⟨zs, h3, ?_, ?_⟩
        · have l1 := rpl_len h4
          have l2 := alen i
          rw [List.length_append, List.length_map, List.length_take] at l1
          rw [List.length_take] at l2
          have l3 : i * ys.length + ys.length ≤ xs.length * ys.length := by
            rw [← Nat.succ_mul]
            exact Nat.mul_le_mul_right _ hlt
          have l4 : min i xs.length = i := Nat.min_eq_left hi
          rw [l4] at l2
          have big : 100000 ≤ sizeLine := by decide
          omega
        · show En _ _ _ _ (k1 ++ [(Dl, .lst (acc i ++ (ys.take (n + 1)).map (d x)))]) _ _ _
          rw [grow]
          exact ⟨F5, gF4.trans g5, (e9.held (ta' := ta2) fun p hp => List.mem_cons_of_mem _ hp).frame (by obtain ⟨_, _, e0⟩ := e4; exact e0.ln) fun a w ha => by
            obtain ⟨v, h5, h6⟩ := eF4.sl a w ha
            exact ⟨v, h5, wok_gr eF4.nz g5 h6⟩⟩
      · have en : n = ys.length := by omega
        subst en
        refine .inl ⟨hst2 _ _ _ ta2 _ H5 (by rw [yl]; exact Nat.le_refl _) trivial (fun p hp => hp) e6, ?_⟩
        have grow : acc (i + 1) = acc i ++ (ys.take ys.length).map (d x) := by
          show (xs.take (i + 1)).flatMap _ = _
          rw [take_succ_some hx, List.flatMap_append, List.take_length]
          simp
          rfl
        show En _ _ _ _ (k1 ++ [(Dl, .lst (acc (i + 1)))]) _ _ _
        rw [grow]
        obtain ⟨F6, g6, e10⟩ := e6
        exact ⟨F6, gF3.trans g6, (e10.held (ta' := ta') hta2).frame ln0 (slots g6)⟩
    · have ei : i = xs.length := by omega
      subst ei
      have all : acc xs.length = xs.flatMap fun x => ys.map (d x) := by
        show (xs.take xs.length).flatMap _ = _
        rw [List.take_length]
      have e2' : En K B F0 ro (k1 ++ [(Dl, .lst (acc xs.length))]) ta' sg H2 := e2
      rw [all] at e2'
      exact .inl ⟨hst _ ro _ ta' sg H2 (by rw [wl]; exact Nat.le_refl _) trivial (fun p hp => hp) e2, q Dl H2 (e2'.held hta)⟩
end
end DL

/-! FB: machines as data (own work). -/
namespace DL
open PySem L2 PySem.W
def nmD (xs : List Nat) : List D := xs.map fun n : Nat => D.int (n : Int)
def atD (p : Bool × List Str) : D := .tup [.bl p.1, .tup (stD p.2)]
/-- what reading a tree tells -/
def rdT (m : Mc) : D := .tup [.lst (m.at_.map atD), .lst (nmD m.fi), .lst (nmD m.la), .lst (m.pr.map prD), .bl m.op]
def prsD (ps : List (Nat × Nat)) : List (List Key × D) := ps.foldl (fun acc p => putT acc (prK p) (D.bl true)) []
structure Fits (m : Mc) : Prop where
  a : m.at_.length ≤ 300
  f : m.fi.length ≤ 300
  l : m.la.length ≤ 300
  p : m.pr.length ≤ 90000
/-- a pattern small enough for its machine, and so are its parts -/
def Tr.sm : Tr → Prop
  | .at k ns => ns.length ≤ 1000
  | .join a b => a.sm ∧ b.sm ∧ ∀ s, Fits (mcT (.join a b) s)
  | .either a b => a.sm ∧ b.sm ∧ ∀ s, Fits (mcT (.either a b) s)
  | .rep a => a.sm ∧ ∀ s, Fits (mcT (.rep a) s)
  | .opt a => a.sm ∧ ∀ s, Fits (mcT (.opt a) s)
theorem Tr.sm.fits {t : Tr} (h : t.sm) (s : Nat) : Fits (mcT t s) := by
  cases t with
  | «at» k ns => exact ⟨by show 1 ≤ 300; decide, by show 1 ≤ 300; decide, by show 1 ≤ 300; decide, by show 0 ≤ 90000; decide⟩
  | join a b => exact h.2.2 s
  | either a b => exact h.2.2 s
  | rep a => exact h.2 s
  | opt a => exact h.2 s
/-! sizes -/
def Tr.ats : Tr → Nat
  | .at _ _ => 1
  | .join a b => a.ats + b.ats
  | .either a b => a.ats + b.ats
  | .rep a => a.ats
  | .opt a => a.ats
def Tr.ops : Tr → Nat
  | .at _ _ => 0
  | .join a b => a.ops + b.ops + 1
  | .either a b => a.ops + b.ops
  | .rep a => a.ops + 1
  | .opt a => a.ops
theorem crN_len (xs ys : List Nat) : (crN xs ys).length = xs.length * ys.length := by
  unfold crN
  induction xs with
  | nil => simp
  | cons x xs ih =>
    rw [List.flatMap_cons, List.length_append, ih, List.length_map, List.length_cons, Nat.succ_mul]
    omega
theorem mc_at_len : ∀ (t : Tr) (s : Nat), (mcT t s).at_.length = t.ats
  | .at _ _, _ => rfl
  | .rep a, s => mc_at_len a s
  | .opt a, s => mc_at_len a s
  | .either a b, s => by
    show (_ ++ _ : List _).length = _
    rw [List.length_append, mc_at_len a, mc_at_len b]
    rfl
  | .join a b, s => by
    show (_ ++ _ : List _).length = _
    rw [List.length_append, mc_at_len a, mc_at_len b]
    rfl
theorem mc_fl_len : ∀ (t : Tr) (s : Nat), (mcT t s).fi.length ≤ t.ats ∧ (mcT t s).la.length ≤ t.ats
  | .at _ _, _ => ⟨Nat.le_refl _, Nat.le_refl _⟩
  | .rep a, s => mc_fl_len a s
  | .opt a, s => mc_fl_len a s
  | .either a b, s => by
    have h1 := mc_fl_len a s
    have h2 := mc_fl_len b (s + (mcT a s).at_.length)
    refine ⟨?_, ?_⟩
    · show (_ ++ _ : List _).length ≤ a.ats + b.ats
      rw [List.length_append]
      omega
    · show (_ ++ _ : List _).length ≤ a.ats + b.ats
      rw [List.length_append]
      omega
  | .join a b, s => by
    have h1 := mc_fl_len a s
    have h2 := mc_fl_len b (s + (mcT a s).at_.length)
    refine ⟨?_, ?_⟩
    · show (ite _ _ _ : List Nat).length ≤ a.ats + b.ats
      split
      · rw [List.length_append]; omega
      · omega
    · show (ite _ _ _ : List Nat).length ≤ a.ats + b.ats
      split
      · rw [List.length_append]; omega
      · omega
theorem mul_le {a b c : Nat} (h1 : a ≤ c) (h2 : b ≤ c) : a * b ≤ c * c := Nat.mul_le_mul h1 h2
theorem mc_pr_len : ∀ (t : Tr) (s n : Nat), t.ats ≤ n → (mcT t s).pr.length ≤ t.ops * (n * n)
  | .at _ _, _, _, _ => Nat.zero_le _
  | .opt a, s, n, h => mc_pr_len a s n h
  | .rep a, s, n, h => by
    have h1 := mc_pr_len a s n h
    have h2 := mc_fl_len a s
    have h0 : a.ats ≤ n := h
    show (_ ++ _ : List _).length ≤ (a.ops + 1) * (n * n)
    rw [List.length_append, crN_len, Nat.succ_mul]
    have := mul_le (Nat.le_trans h2.2 h0) (Nat.le_trans h2.1 h0)
    omega
  | .either a b, s, n, h => by
    have h0 : a.ats + b.ats ≤ n := h
    have h1 := mc_pr_len a s n (by omega)
    have h2 := mc_pr_len b (s + (mcT a s).at_.length) n (by omega)
    show (_ ++ _ : List _).length ≤ (a.ops + b.ops) * (n * n)
    rw [List.length_append, Nat.add_mul]
    omega
  | .join a b, s, n, h => by
    have h0 : a.ats + b.ats ≤ n := h
    have h1 := mc_pr_len a s n (by omega)
    have h2 := mc_pr_len b (s + (mcT a s).at_.length) n (by omega)
    have h3 := mc_fl_len a s
    have h4 := mc_fl_len b (s + (mcT a s).at_.length)
    show (_ ++ _ ++ _ : List _).length ≤ (a.ops + b.ops + 1) * (n * n)
    rw [List.length_append, List.length_append, crN_len, Nat.succ_mul, Nat.add_mul]
    have := mul_le (c := n) (Nat.le_trans h3.2 (by omega)) (Nat.le_trans h4.1 (by omega))
    omega
/-- all atoms hold few names -/
def Tr.few : Tr → Prop
  | .at _ ns => ns.length ≤ 1000
  | .join a b => a.few ∧ b.few
  | .either a b => a.few ∧ b.few
  | .rep a => a.few
  | .opt a => a.few
theorem fits_of {t : Tr} {n : Nat} (h : t.ats ≤ n) (hn : n ≤ 300) (hp : t.ops * (n * n) ≤ 90000) (s : Nat) : Fits (mcT t s) :=
  ⟨by rw [mc_at_len]; omega, by have := (mc_fl_len t s).1; omega, by have := (mc_fl_len t s).2; omega, Nat.le_trans (mc_pr_len t s n h) hp⟩
theorem sm_of : ∀ {t : Tr} {n : Nat}, t.few → t.ats ≤ n → n ≤ 300 → t.ops * (n * n) ≤ 90000 → t.sm
  | .at _ _, _, f, _, _, _ => f
  | .opt a, n, f, h, hn, hp => ⟨sm_of (t := a) f h hn hp, fits_of h hn hp⟩
  | .rep a, n, f, h, hn, hp => ⟨sm_of (t := a) f h hn (Nat.le_trans (Nat.mul_le_mul_right _ (Nat.le_succ _)) hp), fits_of h hn hp⟩
  | .either a b, n, f, h, hn, hp => by
    have h0 : a.ats + b.ats ≤ n := h
    have hp0 : (a.ops + b.ops) * (n * n) ≤ 90000 := hp
    exact ⟨sm_of f.1 (by omega) hn (Nat.le_trans (Nat.mul_le_mul_right _ (by omega)) hp0), sm_of f.2 (by omega) hn (Nat.le_trans (Nat.mul_le_mul_right _ (by omega)) hp0), fits_of h hn hp⟩
  | .join a b, n, f, h, hn, hp => by
    have h0 : a.ats + b.ats ≤ n := h
    have hp0 : (a.ops + b.ops + 1) * (n * n) ≤ 90000 := hp
    exact ⟨sm_of f.1 (by omega) hn (Nat.le_trans (Nat.mul_le_mul_right _ (by omega)) hp0), sm_of f.2 (by omega) hn (Nat.le_trans (Nat.mul_le_mul_right _ (by omega)) hp0), fits_of h hn hp⟩
section
variable {K : PySem.W.Frag} {ro : Ro} {ka k1 k2 : Cells} {te tf : TE}
/-- list + list, both frozen -/
theorem ev_catL {ds es : List D} (h : EvD K te ro ka (.val (.lst ds)) k1) (h2 : EvD K tf ro k1 (.val (.lst es)) k2) (hz : ds.length + es.length ≤ 100000) : EvD K (tOp (rAddU K) te tf) ro ka (.val (.lst (ds ++ es))) k2 := (evn_op h h2 (rvn_cat (b1 := false) (b2 := false) .vl .vl hz)).lst
theorem En.freeze_t {B F0 : Hp} {ta : List (V × W)} {sg : L2.St} {H : Hp} {a : Addr} {ds : List (List Key × D)} (e : En K B F0 ro (ka ++ [(a, .dit ds)]) ta sg H) : En K B F0 ro ka ((.ref a, .val (.dit ds)) :: ta) sg H := by
  obtain ⟨F, g, e⟩ := e
  obtain ⟨fa, ba, xs, ha, rl⟩ := e.ce (a, .dit ds) (by simp)
  have gg : Gr B F (upd F a (.dT xs)) := ⟨Sub.new fa, fun b h1 h2 => by
    have ne : b ≠ a := fun q => h2 (q ▸ ba)
    rw [upd_ne ne]
    exact h1⟩
  have nd2 := e.nd
  rw [List.map_append, List.nodup_append] at nd2
  refine ⟨upd F a (.dT xs), g.trans gg, ⟨fun b u h => ?_, fun b u h => ?_, e.fr, nd2.1, fun q hq => ?_, e.ln, fun i w h => ?_, fun q hq => ?_⟩⟩
  · by_cases hb : b = a
    · subst hb; rw [upd_same] at h; cases h; rfl
    · rw [upd_ne hb] at h; exact e.nz b u h
  · by_cases hb : b = a
    · subst hb; rw [upd_same] at h; cases h; exact .inl ha
    · rw [upd_ne hb] at h; exact e.fz b u h
  · obtain ⟨h1, h2, h3⟩ := e.ce q (List.mem_append_left _ hq)
    have nq : q.1 ≠ a := fun z => nd2.2.2 q.1 (List.mem_map.mpr ⟨q, hq, rfl⟩) a (by simp) z
    exact ⟨by rw [upd_ne nq]; exact h1, h2, ndok_gr e.nz gg h3⟩
  · obtain ⟨v, h1, h2⟩ := e.sl i w h
    exact ⟨v, h1, wok_gr e.nz gg h2⟩
  · rcases List.mem_cons.mp hq with rfl | hq
    · exact ⟨a, xs, rfl, .inl upd_same, RpT.mono gg.sub.exz e.nz _ _ rl⟩
    · exact wok_gr e.nz gg (e.tm q hq)
theorem EvN.dit {ds : List (List Key × D)} (h : EvN K te ro ka (.dit ds) k1) : EvD K te ro ka (.val (.dit ds)) k1 := fun B F0 ta sg H Q e q => h B F0 ta sg H Q e fun a H1 e1 => q _ _ e1.freeze_t
end
section
variable {K : PySem.W.Frag} {ro : Ro} {ka k1 k2 : Cells} {te tf : TE} {y : W}
theorem rpl_nms {F : Hp} : ∀ {ns : List Nat} {vs : List V}, RpL K F (nmD ns) vs → vs = ns.map fun n : Nat => V.int (n : Int)
  | [], _, h => h
  | n :: ns, _, ⟨x, ys, e, h1, h2⟩ => by
    cases h1
    rw [e, rpl_nms (ns := ns) h2]
    rfl
theorem inV_nms (n : Nat) : ∀ ns : List Nat, inV (.int (n : Int)) (ns.map fun n : Nat => V.int (n : Int)) = decide (n ∈ ns)
  | [] => rfl
  | m :: ns => by
    show (((m : Int) == (n : Int)) || inV (.int (n : Int)) (ns.map fun n : Nat => V.int (n : Int))) = _
    rw [inV_nms n ns, Bool.eq_iff_iff, Bool.or_eq_true, decide_eq_true_eq, decide_eq_true_eq, List.mem_cons, beq_iff_eq]
    exact ⟨fun h => h.elim (fun q => .inl (Int.ofNat_inj.mp q).symm) .inr, fun h => h.elim (fun q => .inl (Int.ofNat_inj.mpr q.symm)) .inr⟩
theorem flat_nms : ∀ ns : List Nat, (ns.map fun n : Nat => V.int (n : Int)).all flatV = true
  | [] => rfl
  | n :: ns => by
    rw [List.map_cons, List.all_cons, flat_nms ns]
    rfl
theorem rv_inN {neg tt b : Bool} {n : Nat} {ns : List Nat} (l : Lk ka y tt (nmD ns) b) : RvD K (rIn K neg) ka (.val (.int (n : Int))) y (.val (.bl (if neg then !decide (n ∈ ns) else decide (n ∈ ns)))) := fun B F0 ro ta sg H u v Q e h1 h2 q => by
  obtain ⟨F, g, ef⟩ := id e
  have hu := e.tm_int h1
  subst hu
  obtain ⟨a, xs, rfl, s1, r1⟩ := l.get ef (ef.tm _ h2)
  have ex := rpl_nms r1
  subst ex
  refine ⟨a, _, rfl, s1.sq, rfl, flat_nms ns, ?_⟩
  rw [inV_nms]
  exact q _ _ (e.push_imm fun _ => rfl)
/-- number in numbers -/
theorem ev_inN {tt b : Bool} {n : Nat} {ns : List Nat} (h : EvD K te ro ka (.val (.int (n : Int))) k1) (h2 : EvD K tf ro k1 y k2) (l : Lk k2 y tt (nmD ns) b) : EvD K (tOp (rInU K) te tf) ro ka (.val (.bl (decide (n ∈ ns)))) k2 := ev_op h h2 (rvd_r (rv_inN (neg := false) l))
theorem ev_niN {tt b : Bool} {n : Nat} {ns : List Nat} (h : EvD K te ro ka (.val (.int (n : Int))) k1) (h2 : EvD K tf ro k1 y k2) (l : Lk k2 y tt (nmD ns) b) : EvD K (tOp (rNiU K) te tf) ro ka (.val (.bl (!decide (n ∈ ns)))) k2 := ev_op h h2 (rvd_r (rv_inN (neg := true) l))
/-- two truth values alike -/
theorem ev_eqB {i j : Bool} (h : EvD K te ro ka (.val (.bl i)) k1) (h2 : EvD K tf ro k1 (.val (.bl j)) k2) : EvD K (tOp (rEqP K false) te tf) ro ka (.val (.bl (i == j))) k2 := (ev_eq h h2 .v .v rfl rfl).to (by cases i <;> cases j <;> rfl)
end
/-! a pair among the keys -/
theorem prK_inj {p q : Nat × Nat} (h : prK p = prK q) : p = q := by
  obtain ⟨a, b⟩ := p
  obtain ⟨c, d⟩ := q
  unfold prK at h
  injection h with h1 h2
  injection h2 with h2 _
  injection h1 with h1
  injection h2 with h2
  rw [show a = c from Int.ofNat_inj.mp h1, show b = d from Int.ofNat_inj.mp h2]
theorem put_has {κ α : Type} [DecidableEq κ] (k k' : κ) (v : α) (xs : List (κ × α)) : (getT (putT xs k v) k').isSome = ((getT xs k').isSome || decide (k = k')) := by
  have has : ∀ ys : List (κ × α), (getT ys k').isSome = ys.any fun p => decide (p.1 = k') := fun ys => by
    unfold getT
    rw [Option.isSome_map]
    induction ys with
    | nil => rfl
    | cons y ys ih =>
      rw [List.find?_cons, List.any_cons]
      cases decide (y.1 = k') with
      | true => rfl
      | false => rw [Bool.false_or]; exact ih
  rw [has, has]
  unfold putT
  split
  · rename_i h
    have same : ∀ ys : List (κ × α), (ys.map (newAt k v)).any (fun p => decide (p.1 = k')) = ys.any fun p => decide (p.1 = k') := fun ys => by
      induction ys with
      | nil => rfl
      | cons y ys ih =>
        rw [List.map_cons, List.any_cons, List.any_cons, ih]
        congr 1
        unfold newAt
        split <;> rfl
    rw [same]
    by_cases e : k = k'
    · subst e
      have h' : (xs.any fun p => decide (p.1 = k)) = true := h
      rw [h']
      rfl
    · rw [decide_eq_false e, Bool.or_false]
  · rw [List.any_append]
    simp
theorem prs_in (ps : List (Nat × Nat)) (p : Nat × Nat) : (getT (prsD ps) (prK p)).isSome = decide (p ∈ ps) := by
  have key : ∀ (ps : List (Nat × Nat)) (acc : List (List Key × D)), (getT (ps.foldl (fun acc p => putT acc (prK p) (D.bl true)) acc) (prK p)).isSome = ((getT acc (prK p)).isSome || decide (p ∈ ps)) := by
    intro ps
    induction ps with
    | nil => intro acc; simp
    | cons q ps ih =>
      intro acc
      rw [List.foldl_cons, ih, put_has, Bool.or_assoc]
      congr 1
      rw [Bool.eq_iff_iff, Bool.or_eq_true, decide_eq_true_eq, decide_eq_true_eq, decide_eq_true_eq, List.mem_cons]
      exact ⟨fun h => h.elim (fun z => .inl (prK_inj z).symm) .inr, fun h => h.elim (fun z => .inl (by rw [z])) .inr⟩
  have := key ps []
  rw [show (getT ([] : List (List Key × D)) (prK p)).isSome = false from rfl, Bool.false_or] at this
  exact this
theorem EvI.ws {K : PySem.W.Frag} {wi : TI} {ro : Ro} {ka k1 : Cells} {ws ws' : List W} {C : Cells → Prop} (h : EvI K wi ro ka ws C k1) (e : ws = ws') : EvI K wi ro ka ws' C k1 := e ▸ h
/-! names, parts -/
/-- the names of a pattern, as they stand in it -/
def Tr.nms : Tr → List Str
  | .at _ ns => ns
  | .join a b => a.nms ++ b.nms
  | .either a b => a.nms ++ b.nms
  | .rep a => a.nms
  | .opt a => a.nms
/-- the parts of a pattern that is no atom -/
def Tr.parts : Tr → List Tr
  | .at _ _ => []
  | .join a b => [a, b]
  | .either a b => [a, b]
  | .rep a => [a]
  | .opt a => [a]
def Tr.tag : Tr → Str
  | .at k _ => kdS k
  | .join _ _ => "join"
  | .either _ _ => "either"
  | .rep _ => "repeat"
  | .opt _ => "option"
theorem nms_parts {t : Tr} (h : ∀ k ns, t ≠ .at k ns) : t.nms = t.parts.flatMap Tr.nms := by
  cases t with
  | «at» k ns => exact absurd rfl (h k ns)
  | join a b => show _ = _ ++ (_ ++ []); rw [List.append_nil]; rfl
  | either a b => show _ = _ ++ (_ ++ []); rw [List.append_nil]; rfl
  | rep a => show _ = _ ++ []; rw [List.append_nil]; rfl
  | opt a => show _ = _ ++ []; rw [List.append_nil]; rfl
theorem d_parts {t : Tr} {b : Bool} (h : ∀ k ns, t ≠ .at k ns) : t.d b = .tup (.str t.tag :: t.parts.map (Tr.d b)) := by
  cases t with
  | «at» k ns => exact absurd rfl (h k ns)
  | _ => rfl
theorem dep_parts {t p : Tr} (h : p ∈ t.parts) : p.dep < t.dep := by
  cases t with
  | «at» k ns => cases h
  | join a b =>
    show p.dep < max a.dep b.dep + 1
    rcases List.mem_cons.mp h with e | h2
    · subst e; omega
    · rw [List.mem_singleton.mp h2]; omega
  | either a b =>
    show p.dep < max a.dep b.dep + 1
    rcases List.mem_cons.mp h with e | h2
    · subst e; omega
    · rw [List.mem_singleton.mp h2]; omega
  | rep a =>
    show p.dep < a.dep + 1
    rw [List.mem_singleton.mp h]; omega
  | opt a =>
    show p.dep < a.dep + 1
    rw [List.mem_singleton.mp h]; omega
theorem tag_no {t : Tr} (h : ∀ k ns, t ≠ .at k ns) : ((t.tag == ("any" : Str)) || (t.tag == ("none" : Str))) = false := by
  cases t with
  | «at» k ns => exact absurd rfl (h k ns)
  | _ => rfl
theorem nms_take {t : Tr} (h : ∀ k ns, t ≠ .at k ns) (i : Nat) : ((t.parts.take i).flatMap Tr.nms).length ≤ t.nms.length := by
  rw [nms_parts h]
  conv => rhs; rw [← List.take_append_drop i t.parts]
  rw [List.flatMap_append, List.length_append]
  omega
end DL

/-! FC: where the words of a pattern end (own work). -/
namespace DL
open PySem L2 PySem.W
/-- the lanes from s to k -/
def slc (ws : List Str) (s k : Nat) : List Str := (ws.drop s).take (k - s)
theorem slc_self (ws : List Str) (s : Nat) : slc ws s s = [] := by
  unfold slc
  rw [Nat.sub_self]
  rfl
theorem slc_len {ws : List Str} {s k : Nat} (h1 : s ≤ k) (h2 : k ≤ ws.length) : (slc ws s k).length = k - s := by
  unfold slc
  rw [List.length_take, List.length_drop]
  omega
theorem slc_cat {ws : List Str} {s m k : Nat} (h1 : s ≤ m) (h2 : m ≤ k) : slc ws s m ++ slc ws m k = slc ws s k := by
  unfold slc
  have e : k - s = (m - s) + (k - m) := by omega
  rw [e, List.take_add, List.drop_drop]
  congr 3
  omega
theorem slc_split {ws u v : List Str} {s k : Nat} (h1 : s ≤ k) (h2 : k ≤ ws.length) (e : slc ws s k = u ++ v) : s + u.length ≤ k ∧ u = slc ws s (s + u.length) ∧ v = slc ws (s + u.length) k := by
  have hl := slc_len h1 h2
  rw [e, List.length_append] at hl
  have hm : s + u.length ≤ k := by omega
  have c := slc_cat (ws := ws) (s := s) (m := s + u.length) (k := k) (Nat.le_add_right _ _) hm
  rw [e] at c
  have l1 := slc_len (ws := ws) (Nat.le_add_right s u.length) (Nat.le_trans hm h2)
  have l2 : (slc ws s (s + u.length)).length = u.length := by omega
  exact ⟨hm, (List.append_inj_left c l2).symm, (List.append_inj_right c l2).symm⟩
theorem slc_one {ws : List Str} {s : Nat} {x : Str} (h : ws[s]? = some x) : slc ws s (s + 1) = [x] := by
  unfold slc
  obtain ⟨lt, rfl⟩ := List.getElem?_eq_some_iff.mp h
  rw [List.drop_eq_getElem_cons lt, Nat.add_sub_cancel_left]
  rfl
/-- a word of t lies between s and k -/
def EndsB (t : Tr) (ws : List Str) (s k : Nat) : Prop := s ≤ k ∧ k ≤ ws.length ∧ Lg t (slc ws s k)
theorem ends_at {kd : Bool} {ns ws : List Str} {s k : Nat} : EndsB (.at kd ns) ws s k ↔ ∃ x, ws[s]? = some x ∧ atB (kd, ns) x = true ∧ k = s + 1 := by
  constructor
  · rintro ⟨h1, h2, x, e, hx⟩
    have hl := slc_len h1 h2
    rw [e] at hl
    have hk : k = s + 1 := by
      have : 1 = k - s := hl
      omega
    subst hk
    obtain ⟨y, hy⟩ : ∃ y, ws[s]? = some y := ⟨_, List.getElem?_eq_getElem (by omega)⟩
    rw [slc_one hy] at e
    cases e
    exact ⟨x, hy, hx, rfl⟩
  · rintro ⟨x, hx, hb, rfl⟩
    exact ⟨Nat.le_succ _, (List.getElem?_eq_some_iff.mp hx).1, x, slc_one hx, hb⟩
theorem ends_either {a b : Tr} {ws : List Str} {s k : Nat} : EndsB (.either a b) ws s k ↔ EndsB a ws s k ∨ EndsB b ws s k :=
  ⟨fun ⟨h1, h2, h⟩ => h.elim (fun z => .inl ⟨h1, h2, z⟩) fun z => .inr ⟨h1, h2, z⟩, fun h => h.elim (fun ⟨h1, h2, z⟩ => ⟨h1, h2, .inl z⟩) fun ⟨h1, h2, z⟩ => ⟨h1, h2, .inr z⟩⟩
theorem ends_opt {a : Tr} {ws : List Str} {s k : Nat} (hs : s ≤ ws.length) : EndsB (.opt a) ws s k ↔ k = s ∨ EndsB a ws s k := by
  constructor
  · rintro ⟨h1, h2, h | h⟩
    · have hl := slc_len h1 h2
      rw [h] at hl
      have : 0 = k - s := hl
      exact .inl (by omega)
    · exact .inr ⟨h1, h2, h⟩
  · rintro (rfl | ⟨h1, h2, h⟩)
    · exact ⟨Nat.le_refl _, hs, .inl (slc_self _ _)⟩
    · exact ⟨h1, h2, .inr h⟩
theorem ends_join {a b : Tr} {ws : List Str} {s k : Nat} : EndsB (.join a b) ws s k ↔ ∃ m, EndsB a ws s m ∧ EndsB b ws m k := by
  constructor
  · rintro ⟨h1, h2, u, v, e, hu, hv⟩
    obtain ⟨hm, e1, e2⟩ := slc_split h1 h2 e
    exact ⟨s + u.length, ⟨Nat.le_add_right _ _, by omega, e1 ▸ hu⟩, hm, h2, e2 ▸ hv⟩
  · rintro ⟨m, ⟨h1, h2, ha⟩, h3, h4, hb⟩
    exact ⟨Nat.le_trans h1 h3, h4, _, _, (slc_cat h1 h3).symm, ha, hb⟩
/-- steps one behind another -/
inductive Stp (R : Nat → Nat → Prop) (s : Nat) : Nat → Prop where
  | nil : Stp R s s
  | snoc {m k : Nat} (h : Stp R s m) (hr : R m k) : Stp R s k
theorem ends_rep {a : Tr} {ws : List Str} {s k : Nat} (hs : s ≤ ws.length) : EndsB (.rep a) ws s k ↔ Stp (EndsB a ws) s k := by
  constructor
  · rintro ⟨h1, h2, h⟩
    have key : ∀ u : List Str, Str_ (Lg a) u → ∀ k, s ≤ k → k ≤ ws.length → slc ws s k = u → Stp (EndsB a ws) s k := fun u hu => by
      induction hu with
      | nil =>
        intro k h1 h2 e
        have hl := slc_len h1 h2
        rw [e] at hl
        have : 0 = k - s := hl
        have ek : k = s := by omega
        rw [ek]
        exact .nil
      | @snoc u z hu hz ih =>
        intro k h1 h2 e
        obtain ⟨hm, e1, e2⟩ := slc_split h1 h2 e
        exact .snoc (ih _ (Nat.le_add_right _ _) (by omega) e1.symm) ⟨hm, h2, e2 ▸ hz⟩
    exact key _ h k h1 h2 rfl
  · intro h
    induction h with
    | nil => exact ⟨Nat.le_refl _, hs, by rw [slc_self]; exact .nil⟩
    | @snoc m k h hr ih =>
      obtain ⟨h1, h2, hu⟩ := ih
      obtain ⟨h3, h4, hz⟩ := hr
      refine ⟨Nat.le_trans h1 h3, h4, ?_⟩
      rw [← slc_cat h1 h3]
      exact .snoc hu hz
/-- the whole of it -/
theorem ends_all {t : Tr} {ws : List Str} : EndsB t ws 0 ws.length ↔ Lg t ws := by
  unfold EndsB slc
  rw [List.drop_zero, Nat.sub_zero, List.take_length]
  exact ⟨fun h => h.2.2, fun h => ⟨Nat.zero_le _, Nat.le_refl _, h⟩⟩
end DL

/-! FD: {x: True for x in xs}, xs a list of tuples: the library's DictComp_goesN with the hand layer's state as what holds at each turn (own work). -/
namespace DL
open PySem L2 PySem.W PyProof.Rows
section
variable {X : Cx}
/-- a tuple of numbers and texts put as a key -/
theorem put_tup {pins : List (Addr × Obj)} {sg : L2.St} {H : Hp} {s : Shared} {E : Value → Shared → Prop} {A : Around} {D b : Addr} {old : List (List Key × V)} {k : List Key} {v : V} {r : Value} {Q : Unit → Shared → Prop} (room : A.units < cLine) (I : L2.Inv X pins sg H s)
    (hD : H D = some (.dT old)) (hb : H b = some (.tup (k.map kV))) (few : old.length < sizeLine) (rv : RelV v r) (q : ∀ h' t, L2.Inv X pins sg (upd H D (.dT (putK old k v))) { s with heap := h', toks := t } → Heap.SameBut D s.heap h' → Q () { s with heap := h', toks := t }) :
    wpAny (model X.prog X.w) A (dictSet D (.ref b) r) Q E s := by
  obtain ⟨_, sys, xs, rel, now⟩ := dt_of I.hok hD
  have size : (putK old k v).length ≤ sizeLine := Nat.le_trans (length_putK old k v) few
  refine wpAny_dictSet_heap (knd := tupleKind (mixKind X.prog X.w)) room (key_of I.hok hb) now (fun h' then_ same => q h' _ ?_ same) (hsz := (Paired.length rel).symm ▸ Nat.le_of_lt few)
  obtain ⟨o, es, ep, ho, p1, p2, p3, _, p4⟩ := then_
  have still : ∀ {c : Addr} {ys : List V}, H c = some (.tup ys) → (upd H D (.dT (putK old k v))) c = some (.tup ys) := fun {c ys} e => (upd_ne fun z => by rw [z, hD] at e; cases e).trans e
  exact d_write I (hD ▸ trivial) same ⟨o, ho⟩ ⟨size, sys, _, (rel.put k hb rv).keeps fun c ys e => still e, o, es, ep, ho, p1, p2, p3, p4⟩
/-- the keys put one behind another, each with v -/
def rowsT (v : V) (ks : List (List Key)) : List (List Key × V) := ks.foldl (fun d k => putK d k v) []
theorem rowsT_len {v : V} (ks : List (List Key)) : (rowsT v ks).length ≤ ks.length := by
  have all : ∀ (l : List (List Key)) (d : List (List Key × V)), (l.foldl (fun d k => putK d k v) d).length ≤ d.length + l.length := by
    intro l
    induction l with
    | nil => exact fun d => Nat.le_refl _
    | cons k l ih =>
      intro d
      have := ih (putK d k v)
      have := length_putK d k v
      simp only [List.foldl_cons, List.length_cons] at *
      omega
  simpa [rowsT] using all ks []
theorem rowsT_take {v : V} {ks : List (List Key)} {i : Nat} {k : List Key} (h : ks[i]? = some k) : rowsT v (ks.take (i + 1)) = putK (rowsT v (ks.take i)) k v := by
  rw [List.take_add_one, h]
  exact List.foldl_append ..
/-- {x: v for x in te}, te a list of the tuples at bs, which we know as ks -/
def tKeysT (K : PySem.W.Frag) (v : V) (te : TE) : TE := fun σ H Q => te σ H fun x H1 => ∃ (l : Addr) (bs : List Addr) (ks : List (List Key)), x = .ref l ∧ SqL K H1 l (bs.map V.ref) ∧ ks.length = bs.length ∧ (∀ (i : Nat) (b : Addr) (k : List Key), bs[i]? = some b → ks[i]? = some k → H1 b = some (.tup (k.map kV))) ∧
  bs.length < sizeLine ∧ ∀ D, H1 D = none → Q (.ref D) (upd H1 D (.dT (rowsT v ks)))
theorem vals_refs {bs : List Addr} {its : List Value} (h : Vals (bs.map V.ref) its) : its = bs.map Value.ref := by
  induction bs generalizing its with
  | nil => cases h; rfl
  | cons b bs ih =>
    cases h with
    | cons r rr =>
      cases r
      rw [ih rr]
      rfl
theorem pe_keysT {y : Str} {py pz spos : Pos} {vx iter : Expr} {scope : Scope} {te : TE} {v : V} {r : Value} (room : X.A.units < cLine) (calm : X.calm = true) (he : PE X iter te) (rv : RelV v r) (hv : ∀ (env : Env) (s : Shared) (Q : Value → Shared → Prop) (E : Value → Shared → Prop), Q r s → wpAny (model X.prog X.w) X.A (eval vx env) Q E s)
    (clo : closureFor scope X.env = pure []) (nm : (scope.names.all fun z => decide (z.2 = .local) && decide (scope.names.lookup z.1 = some .local)) = true) (lk : scope.names.lookup y = some .local) (fn : scope.kind = .function) (hd : (y == ("__debug__" : Str)) = false := by decide) (hs : ∀ x, foldedSetIterable iter X.env x = pure x := by intro _; rfl) :
    PE X (.DictComp (.Name y py) vx [⟨.Name y pz, iter, [], 0⟩] scope spos) (tKeysT X.K v te) where
  run pins s σ H Q I h := by
    have loc : ∀ C, (compEnvC scope [] C X.env).kindOf y = some .local := fun C => by
      show ((relabel scope X.env).names).lookup y = some .local
      exact lookup_relabel_local lk
    have kd : ∀ C, (compEnvC scope [] C X.env).scope.kind = .function := fun C => fn
    have each : ∀ z ∈ scope.names, z.2 = .local ∧ scope.names.lookup z.1 = some .local := fun z m => by simpa using List.all_eq_true.mp nm z m
    refine DictComp_goesN clo (fun z m => by rw [(each z m).1]; decide) fn (fun z m _ => (each z m).2) (thn (he.run pins s σ H _ I h) ?_) hs
    rintro u s1 ⟨x, H1, I1, rx, l, bs, ks, rfl, hq, hl, tups, few, q⟩
    cases rx
    obtain ⟨its, vals, lst, _⟩ := I1.list hq
    have ei := vals_refs vals
    have low : l < s1.heap.objs.size := lst.lt
    refine wpAny_pyIter_list lst.isList ?_
    have I2 : L2.Inv X pins σ H1 { s1 with heap := s1.heap.push { cls := .type "list_iterator", data := .fields #[.ref l, .int 0 0] } } := I1.kept (t' := s1.toks) fun b o e => Heap.get?_push_of_some _ e
    generalize hit : s1.heap.objs.size = it at low
    generalize hs2 : ({ s1 with heap := s1.heap.push { cls := .type "list_iterator", data := .fields #[.ref l, .int 0 0] } } : Shared) = s2 at I2
    have size2 : s2.heap.objs.size = it + 1 := by rw [← hs2, ← hit]; exact Heap.size_push ..
    have iter2 : s2.heap.IsListIter it l 0 := by rw [← hs2, ← hit]; exact ⟨_, Heap.get?_push_size _ rfl, rfl, rfl⟩
    have lst2 : s2.heap.IsList l its.toArray := by rw [← hs2]; exact lst.isList.at fun o e => Heap.get?_push_of_some _ e
    have nIt : H1 it = none := I1.hok.fresh (Nat.le_of_eq hit)
    refine ⟨it, [it, l], [it], its.toArray.size, _, _, rfl, (Goes.list (I.ok.hd calm) it l (Nat.ne_of_lt low) its.toArray).toN, ⟨iter2, lst2⟩, fun D C s3 beg atD => ?_⟩
    have nD : H1 D = none := I2.hok.fresh beg.newD
    have nC : H1 C = none := I2.hok.fresh beg.newC
    have itD : it ≠ D := fun z => absurd beg.newD (by rw [size2, ← z]; exact Nat.not_succ_le_self _)
    have itC : it ≠ C := fun z => absurd beg.newC (by rw [size2, ← z]; exact Nat.not_succ_le_self _)
    have lD : l ≠ D := fun z => absurd beg.newD (by rw [size2, ← z]; exact Nat.not_le.mpr (Nat.lt_succ_of_lt low))
    have lC : l ≠ C := fun z => absurd beg.newC (by rw [size2, ← z]; exact Nat.not_le.mpr (Nat.lt_succ_of_lt low))
    let HD : Nat → Hp := fun i => upd H1 D (.dT (rowsT v (ks.take i)))
    have fIt : ∀ i, FpOk X pins (HD i) it := fun i => I1.fpOk (Nat.le_of_eq hit) ((upd_ne itD).trans nIt)
    have fC : ∀ i, FpOk X pins (HD i) C := fun i => I2.fpOk beg.newC ((upd_ne (Ne.symm beg.ne)).trans nC)
    have turned : ∀ {i : Nat} {b : Addr} {s' : Shared} {h' : Heap} {t : Nat}, L2.Inv X pins σ (HD i) s' → FpOk X pins (HD i) b → (∀ c o, c ≠ b → s'.heap.get? c = some o → h'.get? c = some o) → L2.Inv X pins σ (HD i) { s' with heap := h', toks := t } := fun J f k =>
      J.turned k f.1 f.2.1 f.2.2.2.1 f.2.2.2.2.1 f.2.2.2.2.2
    have sys : (D == sysModules) = false := beq_eq_false_iff_ne.mpr fun z => absurd (Nat.lt_of_lt_of_le I2.big beg.newD) (by rw [z]; exact Nat.lt_irrefl _)
    have begin_ : L2.Inv X pins σ (HD 0) s3 := by
      obtain ⟨h3, t3, e3⟩ := beg.only
      have := beg.old
      rw [e3] at this atD ⊢
      exact I2.laid this beg.newD ⟨Nat.zero_le _, sys, [], .nil, _, #[], 0, atD, ⟨rfl, rfl, rfl⟩, rfl, rfl, List.nodup_nil⟩
    refine ⟨fun i s' => (∃ m, s'.heap.Ns C m) ∧ L2.Inv X pins σ (HD i) s', ⟨⟨_, beg.names⟩, begin_⟩, fun i s' h' tk g keep _ => ?_, fun i w s0 s' hi _ _ at_ st g => ?_, fun s' g => ?_⟩
    · obtain ⟨⟨m, ns⟩, J⟩ := g
      exact ⟨⟨m, ns.at fun o e => keep C o (by simpa using itC.symm) e⟩, turned J (fIt i) fun c o ne e => keep c o (by simpa using ne) e⟩
    · obtain ⟨⟨m, ns⟩, J⟩ := g
      have lt : i < bs.length := by rw [ei] at hi; simpa using hi
      obtain ⟨b, hb⟩ : ∃ b, bs[i]? = some b := ⟨_, List.getElem?_eq_getElem lt⟩
      obtain ⟨k, hk⟩ : ∃ k, ks[i]? = some k := ⟨_, List.getElem?_eq_getElem (hl ▸ lt)⟩
      obtain rfl : w = .ref b := by
        have z : its.toArray[i]? = some w := at_
        rw [List.getElem?_toArray, ei, List.getElem?_map, hb] at z
        exact (Option.some.inj z).symm
      refine wpAny_assign_Name (wpAny_storeName_local (m := m) (loc C) ns (fun h4 ns4 same4 => wpAny_tests_nil ?_) (by rw [kd]; rfl))
      rw [if_pos rfl]
      refine wpAny_Name (wpAny_loadName_local (kd C) (loc C) ns4 (if_pos rfl) (hv _ _ _ _ ?_)) hd
      have J4 : L2.Inv X pins σ (HD i) { s' with heap := h4, toks := s'.toks + 1 } := turned J (fC i) fun c o ne e => (same4.2 c ne).trans e
      have st4 : h4.IsListIter it l (i + 1) ∧ h4.IsList l its.toArray := ⟨st.1.at fun o e => (same4.2 it itC).trans e, st.2.at fun o e => (same4.2 l lC).trans e⟩
      have tup := tups i b k hb hk
      have bD : b ≠ D := fun z => by rw [z, nD] at tup; cases tup
      refine put_tup room J4 (old := rowsT v (ks.take i)) upd_same ((upd_ne bD).trans tup) ?_ rv fun h5 t5 J5 same5 => ?_
      · exact Nat.lt_of_le_of_lt (Nat.le_trans (rowsT_len _) (by rw [List.length_take, hl]; exact Nat.min_le_right _ _)) few
      · rw [upd_upd, ← rowsT_take hk] at J5
        exact ⟨⟨⟨_, ns4.at fun o e => (same5.2 C (Ne.symm beg.ne)).trans e⟩, J5⟩, st4.1.at fun o e => (same5.2 it itD).trans e, st4.2.at fun o e => (same5.2 l lD).trans e⟩
    · obtain ⟨⟨m, ns⟩, J⟩ := g
      have all : HD its.toArray.size = upd H1 D (.dT (rowsT v ks)) := by
        show upd H1 D (.dT (rowsT v (ks.take _))) = _
        rw [List.take_of_length_le (by rw [hl, ei]; simp)]
      rw [all] at J
      exact ⟨m, ns, fun h' same => ⟨.ref D, _, turned (i := its.toArray.size) (b := C) (t := s'.toks) (all ▸ J) (fC _) (fun c o ne e => (same.2 c ne).trans e), rfl, all ▸ q D nD⟩⟩
end
end DL
namespace DL
open PySem L2 PySem.W
section
variable {K : PySem.W.Frag} {B F F0 : Hp} {ro : Ro} {ka k1 k2 : Cells} {ta : List (V × W)} {sg : L2.St} {H H' : Hp} {te : TE}
/-- pairs of numbers in a list: each stands as a tuple of its own -/
theorem prs_at (np : NoP K) (e : EnF K B F ro ka ta sg H) : ∀ (ps : List (Nat × Nat)) (xs : List V), RpL K F (ps.map prD) xs → ∃ bs : List Addr, xs = bs.map V.ref ∧ bs.length = ps.length ∧ ∀ (i : Nat) (b : Addr) (k : List Key), bs[i]? = some b → (ps.map prK)[i]? = some k → H b = some (.tup (k.map kV))
  | [], xs, h => ⟨[], h, rfl, fun i b k h => by simp at h⟩
  | p :: ps, xs, h => by
    obtain ⟨x, ys, rfl, hx, hy⟩ := h
    obtain ⟨b, rfl, hb⟩ := pr_at np e hx
    obtain ⟨bs, rfl, hl, at_⟩ := prs_at np e ps ys hy
    refine ⟨b :: bs, rfl, congrArg (· + 1) hl, fun i c k hc hk => ?_⟩
    cases i with
    | zero =>
      cases hc
      cases hk
      exact hb
    | succ i => exact at_ i c k hc hk
/-- the keys of a dict out of pairs, as data -/
def prsT (d : D) (ps : List (Nat × Nat)) : List (List Key × D) := ps.foldl (fun acc p => putT acc (prK p) d) []
theorem rows_rel {d : D} {v : V} (h : Rp K F d v) (ps : List (Nat × Nat)) : RpT K F (prsT d ps) (rowsT v (ps.map prK)) := by
  have all : ∀ (ps : List (Nat × Nat)) (a : List (List Key × D)) (b : List (List Key × V)), RpT K F a b → RpT K F (ps.foldl (fun acc p => putT acc (prK p) d) a) ((ps.map prK).foldl (fun acc k => putK acc k v) b) := by
    intro ps
    induction ps with
    | nil => exact fun _ _ z => z
    | cons p ps ih => exact fun a b z => ih _ _ (rpt_pt.mpr ((rpt_pt.mp z).put (prK p) h))
  exact all ps [] [] rfl
/-- {pair: True for pair in ..} -/
theorem evn_keysT {ps : List (Nat × Nat)} (np : NoP K) (h : EvD K te ro ka (.val (.lst (ps.map prD))) k1) (few : ps.length < 100000) : EvN K (tKeysT K (.bl true) te) ro ka (.dit (prsT (.bl true) ps)) k1 := fun B F0 ta sg H Q e q =>
  h B F0 ta sg H _ e fun u H1 ⟨F, g, ef⟩ => by
    obtain ⟨l, xs, rfl, sl, rl⟩ := Lk.vl.get ef (ef.tm _ List.mem_cons_self)
    obtain ⟨bs, rfl, hl, at_⟩ := prs_at np ef ps xs rl
    refine ⟨l, bs, ps.map prK, rfl, .inl (by simpa [SqB] using sl), by rw [List.length_map, hl], at_, hl ▸ Nat.lt_of_lt_of_le few (by decide), fun Dl hD => q Dl _ ⟨F, g, ?_⟩⟩
    exact (ef.held (ta' := ta) fun p hp => List.mem_cons_of_mem _ hp).cell (o := .dT _) hD (n := .dit (prsT (.bl true) ps)) ⟨_, upd_same, rows_rel (show Rp K F (.bl true) (.bl true) from rfl) ps⟩
end
end DL

/-! FE: the ends of a pattern's words, as the law counts them (own work). -/
namespace DL
open PySem L2 PySem.W
/-- the numbers, each once -/
def dedN (xs : List Nat) : List Nat := ((List.range xs.length).filter fun i => !decide (xs.getD i 0 ∈ xs.take i)).map fun i => xs.getD i 0
theorem dedN_mem {xs : List Nat} {n : Nat} : n ∈ dedN xs ↔ n ∈ xs := by
  unfold dedN
  constructor
  · intro h
    obtain ⟨i, hi, rfl⟩ := List.mem_map.mp h
    have lt := List.mem_range.mp (List.mem_filter.mp hi).1
    rw [List.getD_eq_getElem?_getD, List.getElem?_eq_getElem lt]
    exact List.getElem_mem lt
  · intro h
    have key : ∀ k : Nat, ∀ i, i < k → xs[i]? = some n → n ∈ ((List.range xs.length).filter fun i => !decide (xs.getD i 0 ∈ xs.take i)).map fun i => xs.getD i 0 := by
      intro k
      induction k with
      | zero => intro i hi; exact absurd hi (Nat.not_lt_zero _)
      | succ k ih =>
        intro i hi hx
        have gi : xs.getD i 0 = n := by rw [List.getD_eq_getElem?_getD, hx]; rfl
        by_cases hb : n ∈ xs.take i
        · obtain ⟨j, hj⟩ := List.getElem?_of_mem hb
          have lj : j < i := by
            have := (List.getElem?_eq_some_iff.mp hj).1
            rw [List.length_take] at this
            omega
          rw [List.getElem?_take_of_lt lj] at hj
          exact ih j (by omega) hj
        · refine List.mem_map.mpr ⟨i, List.mem_filter.mpr ⟨List.mem_range.mpr (List.getElem?_eq_some_iff.mp hx).1, ?_⟩, gi⟩
          rw [gi, decide_eq_false hb]
          rfl
    obtain ⟨i, hi⟩ := List.getElem?_of_mem h
    exact key (i + 1) i (Nat.lt_succ_self _) hi
theorem dedN_len (xs : List Nat) : (dedN xs).length ≤ xs.length := by
  unfold dedN
  rw [List.length_map]
  exact Nat.le_trans (List.length_filter_le _ _) (by rw [List.length_range]; exact Nat.le_refl _)
/-- the places not there yet, appended -/
def addN (acc : List Nat) (ps : List Nat) : List Nat := ps.foldl (fun acc p => if p ∈ acc then acc else acc ++ [p]) acc
theorem addN_cons (acc : List Nat) (p : Nat) (ps : List Nat) : addN acc (p :: ps) = addN (if p ∈ acc then acc else acc ++ [p]) ps := rfl
theorem addN_ext (ps : List Nat) : ∀ acc, ∃ r, addN acc ps = acc ++ r := by
  induction ps with
  | nil => exact fun acc => ⟨[], (List.append_nil _).symm⟩
  | cons p ps ih =>
    intro acc
    rw [addN_cons]
    split
    · exact ih acc
    · obtain ⟨r, e⟩ := ih (acc ++ [p])
      exact ⟨p :: r, by rw [e, List.append_assoc]; rfl⟩
theorem addN_mem {x : Nat} (ps : List Nat) : ∀ acc, x ∈ addN acc ps ↔ x ∈ acc ∨ x ∈ ps := by
  induction ps with
  | nil => exact fun acc => by simp [addN]
  | cons p ps ih =>
    intro acc
    rw [addN_cons, ih]
    split
    · rename_i h
      simp only [List.mem_cons]
      constructor
      · rintro (z | z)
        · exact .inl z
        · exact .inr (.inr z)
      · rintro (z | rfl | z)
        · exact .inl z
        · exact .inl h
        · exact .inr z
    · simp only [List.mem_append, List.mem_cons, List.not_mem_nil, or_false]
      rw [or_assoc]
theorem addN_nodup (ps : List Nat) : ∀ acc, acc.Nodup → (addN acc ps).Nodup := by
  induction ps with
  | nil => exact fun acc h => h
  | cons p ps ih =>
    intro acc h
    rw [addN_cons]
    split
    · exact ih acc h
    · rename_i hp
      refine ih _ (List.nodup_append.mpr ⟨h, by simp, fun a ha b hb => ?_⟩)
      rw [List.mem_singleton.mp hb]
      exact fun z => hp (z ▸ ha)
/-- the loop over what was found -/
def repGo (f : Nat → List Nat) : Nat → List Nat → Nat → List Nat
  | 0, found, _ => found
  | n + 1, found, i => match found[i]? with
    | none => found
    | some p => repGo f n (addN found (f p)) (i + 1)
structure RepI (f : Nat → List Nat) (L s n : Nat) (found : List Nat) (i : Nat) : Prop where
  nd : found.Nodup
  le : ∀ x ∈ found, x ≤ L
  st : s ∈ found
  sound : ∀ x ∈ found, Stp (fun m k => k ∈ f m) s x
  shut : ∀ j x, j < i → found[j]? = some x → ∀ k ∈ f x, k ∈ found
  at_ : i ≤ found.length
  fuel : L + 2 ≤ n + i
theorem nodup_le {l : List Nat} {L : Nat} (h : l.Nodup) (b : ∀ x ∈ l, x ≤ L) : l.length ≤ L + 1 := by
  have := nat_nodup_len l (List.range (L + 1)) h fun x hx => List.mem_range.mpr (Nat.lt_succ_of_le (b x hx))
  rwa [List.length_range] at this
theorem RepI.next {f : Nat → List Nat} {L s n : Nat} {found : List Nat} {i p : Nat} (bd : ∀ m ≤ L, ∀ k ∈ f m, k ≤ L) (h : RepI f L s (n + 1) found i) (hp : found[i]? = some p) : RepI f L s n (addN found (f p)) (i + 1) := by
  have mp := List.mem_of_getElem? hp
  obtain ⟨r, er⟩ := addN_ext (f p) found
  have lt := (List.getElem?_eq_some_iff.mp hp).1
  refine ⟨addN_nodup _ _ h.nd, fun x hx => ?_, (addN_mem _ _).mpr (.inl h.st), fun x hx => ?_, fun j x hj hx k hk => ?_, ?_, by have := h.fuel; omega⟩
  · rcases (addN_mem _ _).mp hx with z | z
    · exact h.le x z
    · exact bd p (h.le p mp) x z
  · rcases (addN_mem _ _).mp hx with z | z
    · exact h.sound x z
    · exact .snoc (h.sound p mp) z
  · by_cases e : j = i
    · subst e
      rw [er, List.getElem?_append_left lt, hp] at hx
      cases hx
      exact (addN_mem _ _).mpr (.inr hk)
    · have lj : j < i := by omega
      rw [er, List.getElem?_append_left (by omega)] at hx
      exact (addN_mem _ _).mpr (.inl (h.shut j x lj hx k hk))
  · rw [er, List.length_append]
    omega
theorem repGo_spec {f : Nat → List Nat} {L s : Nat} (bd : ∀ m ≤ L, ∀ k ∈ f m, k ≤ L) : ∀ n found i, RepI f L s n found i → ∀ k, k ∈ repGo f n found i ↔ Stp (fun m k => k ∈ f m) s k := by
  intro n
  induction n with
  | zero =>
    intro found i h
    have := nodup_le h.nd h.le
    have := h.at_
    have := h.fuel
    omega
  | succ n ih =>
    intro found i h k
    unfold repGo
    cases hp : found[i]? with
    | some p => exact ih _ _ (h.next bd hp) k
    | none =>
      have hl := List.getElem?_eq_none_iff.mp hp
      show k ∈ found ↔ _
      refine ⟨h.sound k, fun st => ?_⟩
      induction st with
      | nil => exact h.st
      | @snoc m k _ hr ihm =>
        obtain ⟨j, hj⟩ := List.getElem?_of_mem ihm
        exact h.shut j m (by have := (List.getElem?_eq_some_iff.mp hj).1; omega) hj k hr
theorem repGo_nodup {f : Nat → List Nat} {L s : Nat} (bd : ∀ m ≤ L, ∀ k ∈ f m, k ≤ L) : ∀ n found i, RepI f L s n found i → (repGo f n found i).Nodup ∧ ∀ x ∈ repGo f n found i, x ≤ L := by
  intro n
  induction n with
  | zero => exact fun found i h => ⟨h.nd, h.le⟩
  | succ n ih =>
    intro found i h
    unfold repGo
    cases hp : found[i]? with
    | some p => exact ih _ _ (h.next bd hp)
    | none => exact ⟨h.nd, h.le⟩
theorem RepI.begin {f : Nat → List Nat} {L s : Nat} (h : s ≤ L) : RepI f L s (L + 2) [s] 0 :=
  ⟨by simp, fun x hx => (List.mem_singleton.mp hx) ▸ h, List.mem_singleton.mpr rfl, fun x hx => (List.mem_singleton.mp hx) ▸ .nil, fun j x hj => absurd hj (Nat.not_lt_zero _), Nat.zero_le _, Nat.le_refl _⟩
/-- the ends, in the order in which the law finds them -/
def endsL (ws : List Str) : Tr → Nat → List Nat
  | .at k ns, s => match ws[s]? with
    | some x => if atB (k, ns) x = true then [s + 1] else []
    | none => []
  | .either a b, s => endsL ws a s ++ endsL ws b s
  | .opt a, s => s :: endsL ws a s
  | .join a b, s => (dedN (endsL ws a s)).flatMap (endsL ws b)
  | .rep a, s => repGo (endsL ws a) (ws.length + 2) [s] 0
theorem Stp.imp {R S : Nat → Nat → Prop} {s L : Nat} (hs : s ≤ L) (hR : ∀ m k, m ≤ L → R m k → S m k ∧ k ≤ L) {k : Nat} (h : Stp R s k) : Stp S s k ∧ k ≤ L := by
  induction h with
  | nil => exact ⟨.nil, hs⟩
  | snoc _ hr ih =>
    obtain ⟨h1, h2⟩ := hR _ _ ih.2 hr
    exact ⟨.snoc ih.1 h1, h2⟩
theorem endsL_iff (ws : List Str) : ∀ (t : Tr) (s k : Nat), s ≤ ws.length → (k ∈ endsL ws t s ↔ EndsB t ws s k)
  | .at kd ns, s, k, hs => by
    rw [ends_at]
    unfold endsL
    cases hx : ws[s]? with
    | none => simp
    | some x =>
      by_cases hb : atB (kd, ns) x = true
      · simp [hb]
      · simp [hb]
  | .either a b, s, k, hs => by
    rw [ends_either, ← endsL_iff ws a s k hs, ← endsL_iff ws b s k hs]
    exact List.mem_append
  | .opt a, s, k, hs => by
    rw [ends_opt hs, ← endsL_iff ws a s k hs]
    exact List.mem_cons
  | .join a b, s, k, hs => by
    rw [ends_join]
    unfold endsL
    rw [List.mem_flatMap]
    constructor
    · rintro ⟨m, hm, hk⟩
      have h1 := (endsL_iff ws a s m hs).mp (dedN_mem.mp hm)
      exact ⟨m, h1, (endsL_iff ws b m k h1.2.1).mp hk⟩
    · rintro ⟨m, h1, h2⟩
      exact ⟨m, dedN_mem.mpr ((endsL_iff ws a s m hs).mpr h1), (endsL_iff ws b m k h1.2.1).mpr h2⟩
  | .rep a, s, k, hs => by
    have ih := endsL_iff ws a
    have bd : ∀ m ≤ ws.length, ∀ k ∈ endsL ws a m, k ≤ ws.length := fun m hm k hk => ((ih m k hm).mp hk).2.1
    rw [ends_rep hs]
    unfold endsL
    rw [repGo_spec bd _ _ _ (RepI.begin hs)]
    exact ⟨fun h => (Stp.imp hs (fun m k hm hr => ⟨(ih m k hm).mp hr, bd m hm k hr⟩) h).1, fun h => (Stp.imp hs (fun m k hm hr => ⟨(ih m k hm).mpr hr, hr.2.1⟩) h).1⟩
theorem endsL_le {ws : List Str} {t : Tr} {s : Nat} (hs : s ≤ ws.length) : ∀ k ∈ endsL ws t s, k ≤ ws.length := fun k hk => ((endsL_iff ws t s k hs).mp hk).2.1
/-- how many ends there are at most -/
def bndE : Nat → Nat
  | 0 => 1
  | 1 => 9
  | 2 => 81
  | _ => 6561
theorem bndE_max {a b : Nat} (ha : a ≤ 2) (hb : b ≤ 2) : bndE a + bndE b ≤ bndE (max a b + 1) ∧ bndE a * bndE b ≤ bndE (max a b + 1) ∧ bndE a + 1 ≤ bndE (a + 1) ∧ 9 ≤ bndE (a + 1) := by
  have key : ∀ a < 3, ∀ b < 3, bndE a + bndE b ≤ bndE (max a b + 1) ∧ bndE a * bndE b ≤ bndE (max a b + 1) ∧ bndE a + 1 ≤ bndE (a + 1) ∧ 9 ≤ bndE (a + 1) := by decide
  exact key a (by omega) b (by omega)
theorem flatMap_le {f : Nat → List Nat} {b : Nat} : ∀ l : List Nat, (∀ x ∈ l, (f x).length ≤ b) → (l.flatMap f).length ≤ l.length * b
  | [], _ => Nat.zero_le _
  | x :: l, h => by
    rw [List.flatMap_cons, List.length_append, List.length_cons, Nat.succ_mul]
    have := flatMap_le l fun y hy => h y (List.mem_cons_of_mem _ hy)
    have := h x List.mem_cons_self
    omega
theorem endsL_len {ws : List Str} (hw : ws.length ≤ 8) : ∀ (t : Tr) (s : Nat), t.dep ≤ 3 → s ≤ ws.length → (endsL ws t s).length ≤ bndE t.dep
  | .at kd ns, s, _, _ => by
    unfold endsL
    split
    · split <;> simp [Tr.dep, bndE]
    · simp
  | .either a b, s, hd, hs => by
    have hd : max a.dep b.dep + 1 ≤ 3 := hd
    have h1 := endsL_len hw a s (by omega) hs
    have h2 := endsL_len hw b s (by omega) hs
    have := (bndE_max (a := a.dep) (b := b.dep) (by omega) (by omega)).1
    show (endsL ws a s ++ endsL ws b s).length ≤ bndE (max a.dep b.dep + 1)
    rw [List.length_append]
    omega
  | .opt a, s, hd, hs => by
    have hd : a.dep + 1 ≤ 3 := hd
    have h1 := endsL_len hw a s (by omega) hs
    have := (bndE_max (a := a.dep) (b := a.dep) (by omega) (by omega)).2.2.1
    show (endsL ws a s).length + 1 ≤ bndE (a.dep + 1)
    omega
  | .join a b, s, hd, hs => by
    have hd : max a.dep b.dep + 1 ≤ 3 := hd
    have h1 := endsL_len hw a s (by omega) hs
    have := (bndE_max (a := a.dep) (b := b.dep) (by omega) (by omega)).2.1
    show ((dedN (endsL ws a s)).flatMap (endsL ws b)).length ≤ bndE (max a.dep b.dep + 1)
    refine Nat.le_trans (flatMap_le (b := bndE b.dep) _ fun m hm => endsL_len hw b m (by omega) (endsL_le hs m (dedN_mem.mp hm))) (Nat.le_trans (Nat.mul_le_mul_right _ (Nat.le_trans (dedN_len _) h1)) this)
  | .rep a, s, hd, hs => by
    have hd : a.dep + 1 ≤ 3 := hd
    have bd : ∀ m ≤ ws.length, ∀ k ∈ endsL ws a m, k ≤ ws.length := fun m hm => endsL_le hm
    have := (bndE_max (a := a.dep) (b := a.dep) (by omega) (by omega)).2.2.2
    obtain ⟨n1, n2⟩ := repGo_nodup bd _ _ _ (RepI.begin hs)
    have := nodup_le n1 n2
    show (repGo (endsL ws a) (ws.length + 2) [s] 0).length ≤ bndE (a.dep + 1)
    omega
theorem bndE_top {d : Nat} : bndE d ≤ 6561 := by
  match d with
  | 0 => decide
  | 1 => decide
  | 2 => decide
  | n + 3 => exact Nat.le_refl _
end DL

/-! FF: defs with a star parameter, by contracts about the tuple (own work). -/
namespace DL
open PySem L2 PySem.W PyProof.Rows
/-- a contract about the tuple of all arguments, told by the arguments -/
def CtV (C : Ct) : Ct := fun ws ka out => ∃ ds : List D, ws = ds.map W.val ∧ ds.length ≤ 100000 ∧ C [.val (.tup ds)] ka out
/-- the def at f, which takes any number of arguments, keeps C of their tuple -/
def FnV (P : Program) (w : World) (K : PySem.W.Frag) (mg : Str → Option Value) (base : Heap) (k : Nat) (f : Addr) (C : Ct) : Prop := FnR P w K mg base (L2.CX P w) k f (spC K (CtV C))
section
variable {P : Program} {w : World} {K : PySem.W.Frag} {mg : Str → Option Value} {base : Heap} {f : Addr} {fd : FuncData} {x qual pv : Str} {params : Arguments} {body : List Stmt} {scope : Scope} {N : List Str} {k j : Nat} {C : Ct}
theorem FnV.up (F : FnV P w K mg base j f C) (h : j ≤ k) : FnV P w K mg base k f C := FnR.mono F h
/-- what a contract says of a body: its wish at the start of the frame -/
theorem sp_start {ps : List Str} {t : TS} {vs : List V} {H : Hp} {Q : VK} {E : XK} (hl : ∀ ws ka out, C ws ka out → ws.length = ps.length) (h : spC K C vs H Q E)
    (p : ∀ ws ka out B F0 Q, C ws ka out → RtOk K B F0 out Q → RxOk K B F0 out E → Gp K B F0 [] (t { nx := fun _ H' => Q .non H', rt := Q }) (ws.map some ++ List.replicate (N.length - ps.length) none) ka) : t { nx := fun _ H' => Q .non H', rt := Q } (L2.start N vs) H := by
  obtain ⟨B, F0, ws, ka, out, hC, l, ⟨F1, g1, en⟩, hR, hX⟩ := h
  have hw := hl _ _ _ hC
  refine p ws ka out B F0 Q hC hR hX _ H ⟨F1, g1, (en.frame ?_ fun i y e => ?_).held fun q hq => by cases hq⟩
  · simp [L2.start, l, hw]
  · unfold L2.start
    rcases Nat.lt_or_ge i ws.length with lt | ge
    · have lv : i < vs.length := l ▸ lt
      rw [List.getElem?_append_left (by rw [List.length_map]; exact lt), List.getElem?_map, List.getElem?_eq_getElem lt] at e
      obtain rfl : ws[i] = y := by simpa using e
      refine ⟨vs[i], by rw [List.getElem?_append_left (by rw [List.length_map]; exact lv), List.getElem?_map, List.getElem?_eq_getElem lv]; rfl, en.tm (vs[i], ws[i]) (List.mem_of_getElem? (i := i) ?_)⟩
      exact List.getElem?_zip_eq_some.mpr ⟨List.getElem?_eq_getElem lv, List.getElem?_eq_getElem lt⟩
    · rw [List.getElem?_append_right (by rw [List.length_map]; exact ge), List.getElem?_replicate] at e
      split at e <;> cases e
/-- the arguments gathered -/
theorem sp_gather {vs : List V} {H : Hp} {Q : VK} {E : XK} (h : spC K (CtV C) vs H Q E) : ∃ us rest, vs = us ++ rest ∧ us.length = ([] : List Str).length ∧ rest.length ≤ sizeLine ∧ ∀ p, H p = none → spC K C (us ++ [V.ref p]) (upd H p (.tup rest)) Q E := by
  obtain ⟨B, F0, _, ka, out, ⟨ds, rfl, few, hC⟩, l, ⟨F1, g1, en⟩, hR, hX⟩ := h
  rw [List.length_map] at l
  refine ⟨[], vs, rfl, rfl, l ▸ Nat.le_trans few (by decide), fun p hp => ?_⟩
  obtain ⟨e2, g2⟩ := en.lay (o := .tup vs) hp rfl
  refine ⟨B, F0, _, ka, out, hC, rfl, ⟨_, g1.trans g2, (e2.held (ta' := []) fun q hq => by cases hq).push ⟨p, vs, rfl, .inl (.inl upd_same), ?_⟩⟩, hR, hX⟩
  exact RpL.mono g2.sub.exz en.nz _ _ (rpl_of l fun z hz => en.tm z hz)
theorem fn_okV (F : FunD K x qual params body scope [] [] f fd) (S : FnScope N [pv] scope)
    (hb : ∀ (kV doc pm : Value) (an : Option Addr) (cdv ct : Value) (rest : List Value), bindArgs (PySem.W.fnOf x qual params body scope .none kV doc pm an cdv ct) ⟨rest, []⟩ = (newTuple rest >>= fun t => pure [(pv, t)]))
    (hl : ∀ ws ka out, C ws ka out → ws.length = 1)
    (h : ∀ (cdv : Value) (A : Around) (outer : List Env) (s : Shared) (H : Hp) (E : XK), Room k (A.deeper (PyProof.Rows.envOfC qual scope s.heap.objs.size f cdv)) →
      ∃ t, PSs (cxOf (L2.CX P w) P w K mg base N qual scope f cdv A outer s H E) body t ∧
        ∀ ws ka out B F0 Q, C ws ka out → RtOk K B F0 out Q → RxOk K B F0 out E → Gp K B F0 [] (t { nx := fun _ H' => Q .non H', rt := Q }) (ws.map some ++ List.replicate (N.length - [pv].length) none) ka) : FnV P w K mg base (k + 1) f C := by
  obtain ⟨oc, od, dV, kV, doc, pm, an, cdv, ct, osl, rfl, lk, hcd, dfl, _⟩ := F.ex
  obtain rfl : dV = .none := dfl.elim (fun z => z.2) fun z => absurd rfl z.1
  refine FnR.imp (StX.fn_star (ps := []) (pv := pv) (sp := spC K C) lk hcd S StX.cxUp (fun us rest hu => ?_) fun A outer s H vs Q E hr hs => ?_) fun vs H Q E z => sp_gather z
  · cases List.eq_nil_of_length_eq_zero hu
    exact hb kV doc pm an cdv ct rest
  · obtain ⟨t, d, p⟩ := h cdv A outer s H E hr
    exact ⟨t, d, sp_start (ps := [pv]) hl hs p⟩
end
section
variable {X : Cx} {k : Nat} {f : Addr} {C : Ct} {E : XK} {x : Str} {p pos : Pos} {e : Expr} {es : List Expr} {t : TA}
/-- f(e, ..), f a def with a star parameter -/
theorem pe_callS (F : FnV X.prog X.w X.K X.mg X.base k f C) (hr : Room k X.A) (hg : Gl X x) (hm : X.mg x = some (.ref f)) (kp : PySem.W.keepIn X.K (.ref f) = true) (hx : Passes (L2.CX X.prog X.w) X E) (ha : PA X (e :: es) t)
    (nd : (x == ("__debug__" : Str)) = false := by decide) (st : starEach (e :: es) X.env = (false, eval e X.env) :: starEach es X.env := by rfl) (pl : (backTo pos (starEach es X.env)).any (·.1) = false := by rfl) : PE X (.Call (.Name x p) (e :: es) [] pos) (tCall (spC X.K (CtV C)) [] E t) where
  run pins s σ H Q I h := wpAny_Call_Name_kw (ld_glob I hg hm (PySem.W.callWith_K (h₀ := X.base) I.ok.mod.kin kp (thn (ha.run pos pins s σ H _ I h) fun us s1 ⟨vs, H1, J, rv, q⟩ => ⟨J.kIn, wpAny_call (run_fnR F hr hx J rv (vs.append_nil ▸ q))⟩) st pl) nd)
/-- f() -/
theorem pe_callS0 (F : FnV X.prog X.w X.K X.mg X.base k f C) (hr : Room k X.A) (hg : Gl X x) (hm : X.mg x = some (.ref f)) (kp : PySem.W.keepIn X.K (.ref f) = true) (hx : Passes (L2.CX X.prog X.w) X E) (nd : (x == ("__debug__" : Str)) = false := by decide) :
    PE X (.Call (.Name x p) [] [] pos) (tCall (spC X.K (CtV C)) [] E tNil) where
  run pins s σ H Q I h := wpAny_Call_Name_kw (ld_glob I hg hm (PySem.W.callWith_K0 I.kIn kp (wpAny_call (run_fnR (us := []) F hr hx I .nil h))) nd)
end
/-- trees as the law draws them: at each end one to three names, or none behind "none" -/
def niceT : Tr → Prop
  | .at k ns => ns.length ≤ 3 ∧ (k = true → ns ≠ []) ∧ ∀ n ∈ ns, isNm n = true
  | .join a b => niceT a ∧ niceT b
  | .either a b => niceT a ∧ niceT b
  | .rep a => niceT a
  | .opt a => niceT a
/-- an operator of two own objects that comes back -/
theorem ev_opB {K : PySem.W.Frag} {ro : Ro} {ka k1 k2 : Cells} {te tf : TE} {x y : W} {C : Addr} {fs gs : List (Str × D)} {b b2 : Bool} {Cc : Ct} {E : XK} {d : D} (h1 : EvD K te ro ka x k1) (h2 : EvD K tf ro k1 y k2) (l1 : Io k2 x C fs b) (l2 : Io k2 y C gs b2) (hC : Cc [x, y] [] (Rt d [])) :
    EvD K (tOp (rOwnB C (spC K Cc) E) te tf) ro ka (.val d) k2 := fun B F0 ta sg H Q e q =>
  evr_opB (op := .Add) (k2 := []) k2 h1 h2 l1 l2 hC (fun o k z => ⟨d, z.1⟩) B F0 ta sg H Q e fun w k v H' ⟨d', k3, ⟨e1, e2⟩, e3, e4⟩ e' => by
    cases e1
    subst e2 e3 e4
    exact q v H' e'
/-- sizes of such trees -/
theorem nice_few : ∀ {t : Tr}, niceT t → t.few
  | .at _ _, h => Nat.le_trans h.1 (by decide)
  | .join _ _, h => ⟨nice_few h.1, nice_few h.2⟩
  | .either _ _, h => ⟨nice_few h.1, nice_few h.2⟩
  | .rep a, h => nice_few (t := a) h
  | .opt a, h => nice_few (t := a) h
theorem pow_max (a b : Nat) : 2 ^ a ≤ 2 ^ (max a b) ∧ 2 ^ b ≤ 2 ^ (max a b) := ⟨Nat.pow_le_pow_right (by decide) (Nat.le_max_left _ _), Nat.pow_le_pow_right (by decide) (Nat.le_max_right _ _)⟩
theorem ats_le : ∀ t : Tr, t.ats ≤ 2 ^ t.dep
  | .at _ _ => Nat.le_refl _
  | .join a b => by
    have h1 := ats_le a
    have h2 := ats_le b
    have h3 := pow_max a.dep b.dep
    show a.ats + b.ats ≤ 2 ^ (max a.dep b.dep + 1)
    rw [Nat.pow_succ]
    omega
  | .either a b => by
    have h1 := ats_le a
    have h2 := ats_le b
    have h3 := pow_max a.dep b.dep
    show a.ats + b.ats ≤ 2 ^ (max a.dep b.dep + 1)
    rw [Nat.pow_succ]
    omega
  | .rep a => by
    have h1 := ats_le a
    show a.ats ≤ 2 ^ (a.dep + 1)
    rw [Nat.pow_succ]
    omega
  | .opt a => by
    have h1 := ats_le a
    show a.ats ≤ 2 ^ (a.dep + 1)
    rw [Nat.pow_succ]
    omega
theorem ops_le : ∀ t : Tr, t.ops + 1 ≤ 2 ^ t.dep
  | .at _ _ => Nat.le_refl _
  | .join a b => by
    have h1 := ops_le a
    have h2 := ops_le b
    have h3 := pow_max a.dep b.dep
    show a.ops + b.ops + 1 + 1 ≤ 2 ^ (max a.dep b.dep + 1)
    rw [Nat.pow_succ]
    omega
  | .either a b => by
    have h1 := ops_le a
    have h2 := ops_le b
    have h3 := pow_max a.dep b.dep
    show a.ops + b.ops + 1 ≤ 2 ^ (max a.dep b.dep + 1)
    rw [Nat.pow_succ]
    omega
  | .rep a => by
    have h1 := ops_le a
    have : 1 ≤ 2 ^ a.dep := Nat.one_le_two_pow
    show a.ops + 1 + 1 ≤ 2 ^ (a.dep + 1)
    rw [Nat.pow_succ]
    omega
  | .opt a => by
    have h1 := ops_le a
    show a.ops + 1 ≤ 2 ^ (a.dep + 1)
    rw [Nat.pow_succ]
    omega
theorem nice_sm {t : Tr} (h : niceT t) (hd : t.dep ≤ 3) : t.sm := by
  have p3 : 2 ^ t.dep ≤ 2 ^ 3 := Nat.pow_le_pow_right (by decide) hd
  have h1 := ats_le t
  have h2 := ops_le t
  have e : (2 : Nat) ^ 3 = 8 := by decide
  refine sm_of (n := 8) (nice_few h) (by omega) (by decide) ?_
  have : t.ops ≤ 7 := by omega
  calc t.ops * (8 * 8) ≤ 7 * (8 * 8) := Nat.mul_le_mul_right _ this
    _ ≤ 90000 := by decide
end DL

/-! FG: patterns turned about and multiplied (own work). -/
namespace DL
open PySem L2 PySem.W
/-- the words in the opposite order -/
def rvT : Tr → Tr
  | .at k ns => .at k ns
  | .join a b => .join (rvT b) (rvT a)
  | .either a b => .either (rvT a) (rvT b)
  | .rep a => .rep (rvT a)
  | .opt a => .opt (rvT a)
theorem rvT_dep : ∀ t : Tr, (rvT t).dep = t.dep
  | .at _ _ => rfl
  | .join a b => by show max (rvT b).dep (rvT a).dep + 1 = max a.dep b.dep + 1; rw [rvT_dep a, rvT_dep b, Nat.max_comm]
  | .either a b => by show max (rvT a).dep (rvT b).dep + 1 = max a.dep b.dep + 1; rw [rvT_dep a, rvT_dep b]
  | .rep a => congrArg (· + 1) (rvT_dep a)
  | .opt a => congrArg (· + 1) (rvT_dep a)
theorem rvT_nice : ∀ {t : Tr}, niceT t → niceT (rvT t)
  | .at _ _, h => h
  | .join a b, h => ⟨rvT_nice (t := b) h.2, rvT_nice (t := a) h.1⟩
  | .either a b, h => ⟨rvT_nice (t := a) h.1, rvT_nice (t := b) h.2⟩
  | .rep a, h => rvT_nice (t := a) h
  | .opt a, h => rvT_nice (t := a) h
theorem rvT_rv : ∀ t : Tr, rvT (rvT t) = t
  | .at _ _ => rfl
  | .join a b => by show Tr.join (rvT (rvT a)) (rvT (rvT b)) = _; rw [rvT_rv a, rvT_rv b]
  | .either a b => by show Tr.either (rvT (rvT a)) (rvT (rvT b)) = _; rw [rvT_rv a, rvT_rv b]
  | .rep a => congrArg Tr.rep (rvT_rv a)
  | .opt a => congrArg Tr.opt (rvT_rv a)
theorem rvT_nms {x : Str} : ∀ t : Tr, x ∈ (rvT t).nms ↔ x ∈ t.nms
  | .at _ _ => Iff.rfl
  | .join a b => by
    show x ∈ (rvT b).nms ++ (rvT a).nms ↔ x ∈ a.nms ++ b.nms
    rw [List.mem_append, List.mem_append, rvT_nms a, rvT_nms b]
    exact Or.comm
  | .either a b => by
    show x ∈ (rvT a).nms ++ (rvT b).nms ↔ x ∈ a.nms ++ b.nms
    rw [List.mem_append, List.mem_append, rvT_nms a, rvT_nms b]
  | .rep a => rvT_nms a
  | .opt a => rvT_nms a
theorem str_cons {P : List Str → Prop} {z u : List Str} (hz : P z) (h : Str_ P u) : Str_ P (z ++ u) := by
  induction h with
  | nil => simpa using Str_.snoc (P := P) .nil hz
  | snoc _ hz2 ih => rw [← List.append_assoc]; exact .snoc ih hz2
theorem rvT_lg : ∀ (t : Tr) (w : List Str), Lg t w → Lg (rvT t) w.reverse
  | .at k ns, w, h => by
    obtain ⟨x, rfl, hx⟩ := h
    exact ⟨x, rfl, hx⟩
  | .join a b, w, h => by
    obtain ⟨u, v, rfl, hu, hv⟩ := h
    exact ⟨v.reverse, u.reverse, List.reverse_append, rvT_lg b v hv, rvT_lg a u hu⟩
  | .either a b, w, h => h.imp (rvT_lg a w) (rvT_lg b w)
  | .rep a, w, h => by
    have key : ∀ w, Str_ (Lg a) w → Str_ (Lg (rvT a)) w.reverse := fun w h => by
      induction h with
      | nil => exact .nil
      | snoc _ hz ih => rw [List.reverse_append]; exact str_cons (rvT_lg a _ hz) ih
    exact key w h
  | .opt a, w, h => by
    rcases h with rfl | h
    · exact .inl rfl
    · exact .inr (rvT_lg a w h)
theorem rvT_iff {t : Tr} {w : List Str} : Lg (rvT t) w.reverse ↔ Lg t w :=
  ⟨fun h => by
    have := rvT_lg _ _ h
    rwa [rvT_rv, List.reverse_reverse] at this, rvT_lg t w⟩
/-- so many one behind another -/
def powT (t : Tr) : Nat → Tr
  | 0 => t
  | n + 1 => .join (powT t n) t
theorem powT_dep (t : Tr) : ∀ n, (powT t n).dep ≤ t.dep + n
  | 0 => Nat.le_refl _
  | n + 1 => by
    have := powT_dep t n
    show max (powT t n).dep t.dep + 1 ≤ t.dep + (n + 1)
    omega
theorem powT_nice {t : Tr} (h : niceT t) : ∀ n, niceT (powT t n)
  | 0 => h
  | n + 1 => ⟨powT_nice h n, h⟩
theorem powT_ats (t : Tr) : ∀ n, (powT t n).ats = (n + 1) * t.ats ∧ (powT t n).ops = (n + 1) * t.ops + n
  | 0 => by simp [powT]
  | n + 1 => by
    obtain ⟨h1, h2⟩ := powT_ats t n
    constructor
    · show (powT t n).ats + t.ats = _
      rw [h1, Nat.succ_mul (n + 1)]
    · show (powT t n).ops + t.ops + 1 = _
      rw [h2, Nat.succ_mul (n + 1)]
      omega
/-- one lane out of some, so often -/
theorem pow_lane {ns : List Str} : ∀ (n : Nat) (w : List Str), Lg (powT (.at true ns) n) w ↔ w.length = n + 1 ∧ ∀ x ∈ w, x ∈ ns
  | 0, w => by
    constructor
    · rintro ⟨x, rfl, hx⟩
      refine ⟨rfl, fun y hy => ?_⟩
      rw [List.mem_singleton.mp hy]
      simpa [atB] using hx
    · rintro ⟨hl, h⟩
      obtain ⟨x, rfl⟩ := List.length_eq_one_iff.mp hl
      exact ⟨x, rfl, by simpa [atB] using h x List.mem_cons_self⟩
  | n + 1, w => by
    constructor
    · rintro ⟨u, v, rfl, hu, x, rfl, hx⟩
      obtain ⟨h1, h2⟩ := (pow_lane n u).mp hu
      refine ⟨by rw [List.length_append, h1]; rfl, fun y hy => ?_⟩
      rcases List.mem_append.mp hy with hy | hy
      · exact h2 y hy
      · rw [List.mem_singleton.mp hy]
        simpa [atB] using hx
    · rintro ⟨hl, h⟩
      have hw : w ≠ [] := fun z => by rw [z] at hl; cases hl
      refine ⟨w.dropLast, [w.getLast hw], (List.dropLast_concat_getLast hw).symm, (pow_lane n _).mpr ⟨by rw [List.length_dropLast, hl]; rfl, fun x hx => h x ((List.dropLast_sublist w).subset hx)⟩, _, rfl, ?_⟩
      simpa [atB] using h _ (List.getLast_mem hw)
/-- one sequence of lanes -/
def wdT : Str → List Str → Tr
  | x, l => l.foldl (fun t y => .join t (.at true [y])) (.at true [x])
theorem wdT_snoc (x y : Str) (l : List Str) : wdT x (l ++ [y]) = .join (wdT x l) (.at true [y]) := by
  show List.foldl _ _ (l ++ [y]) = _
  rw [List.foldl_append]
  rfl
theorem wd3 {a b c : Str} {w : List Str} : Lg (wdT a [b, c]) w ↔ w = [a, b, c] := by
  have one : ∀ {x y : Str}, atB (true, [x]) y = true ↔ y = x := fun {x y} => by simp [atB]
  constructor
  · rintro ⟨u, v, rfl, ⟨u2, v2, rfl, ⟨x, rfl, hx⟩, y, rfl, hy⟩, z, rfl, hz⟩
    rw [one.mp hx, one.mp hy, one.mp hz]
    rfl
  · rintro rfl
    exact ⟨[a, b], [c], rfl, ⟨[a], [b], rfl, ⟨a, rfl, one.mpr rfl⟩, b, rfl, one.mpr rfl⟩, c, rfl, one.mpr rfl⟩
theorem filter_one {α : Type} [DecidableEq α] {l : List α} {x : α} (nd : l.Nodup) (hx : x ∈ l) : l.filter (fun y => decide (y = x)) = [x] := by
  induction l with
  | nil => cases hx
  | cons y l ih =>
    rw [List.nodup_cons] at nd
    rw [List.filter_cons]
    by_cases e : y = x
    · subst e
      rw [if_pos (decide_eq_true rfl), List.filter_eq_nil_iff.mpr fun z hz => by
        rw [decide_eq_true_eq]
        rintro rfl
        exact nd.1 hz]
    · rw [if_neg (by rw [decide_eq_true_eq]; exact e)]
      exact ih nd.2 ((List.mem_cons.mp hx).resolve_left (Ne.symm e))
end DL
namespace DL
open PySem L2 PySem.W
theorem nms_le : ∀ t : Tr, niceT t → t.nms.length ≤ 3 * t.ats
  | .at _ ns, h => h.1
  | .join a b, h => by
    have h1 := nms_le a h.1
    have h2 := nms_le b h.2
    show (a.nms ++ b.nms).length ≤ 3 * (a.ats + b.ats)
    rw [List.length_append]
    omega
  | .either a b, h => by
    have h1 := nms_le a h.1
    have h2 := nms_le b h.2
    show (a.nms ++ b.nms).length ≤ 3 * (a.ats + b.ats)
    rw [List.length_append]
    omega
  | .rep a, h => nms_le a h
  | .opt a, h => nms_le a h
end DL



namespace K11
open PySem L2 DL PySem.W
abbrev top (i : Nat) : Stmt := PySem.Challenge.pw_alsoshown_k11_patterns_put_together.main.body.getD i (.Pass ⟨0, 0, 0, 0⟩)
def clsBody : Stmt → List Stmt
  | .ClassDef (body := b) .. => b
  | _ => []
abbrev mth (i j : Nat) : Stmt := (clsBody (top i)).getD j (.Pass ⟨0, 0, 0, 0⟩)
abbrev s_is_name : Stmt := top 17
abbrev s_is_whole : Stmt := top 18
abbrev s_is_count : Stmt := top 19
abbrev s_are_names : Stmt := top 20
abbrev s_in_order : Stmt := top 33
abbrev s_check_lanes : Stmt := top 34
abbrev s_crossed : Stmt := top 11
abbrev s_read_tree : Stmt := top 10
abbrev s_Machine___init : Stmt := mth 8 0
abbrev s_made_machine : Stmt := top 9
abbrev s_Machine_takes : Stmt := mth 8 1
abbrev s_Machine_is_behind : Stmt := mth 8 3
abbrev s_Machine_after : Stmt := mth 8 2
abbrev s_Machine_started : Stmt := mth 8 5
abbrev s_Machine_is_done : Stmt := mth 8 6
abbrev s_accepts : Stmt := top 12
abbrev s_joined : Stmt := top 36
abbrev s_opposite : Stmt := top 37
abbrev s_tree_names : Stmt := top 38
abbrev s_Pattern___init : Stmt := mth 42 0
abbrev s_Pattern_names : Stmt := mth 42 3
abbrev s_Pattern___contains : Stmt := mth 42 4
abbrev s_Pattern___bool : Stmt := mth 42 5
abbrev s_Pattern___add : Stmt := mth 42 6
abbrev s_Pattern___or : Stmt := mth 42 7
abbrev s_Pattern___mul : Stmt := mth 42 8
abbrev s_Pattern___neg : Stmt := mth 42 9
abbrev s_any_of : Stmt := top 43
abbrev s_none_of : Stmt := top 44
abbrev s_word_pattern : Stmt := top 46
abbrev s_walk_of : Stmt := top 45
abbrev s_repeated : Stmt := top 47
abbrev s_optional : Stmt := top 48
abbrev s_law_cell : Stmt := top 50
abbrev s_law_pool : Stmt := top 51
abbrev s_law_take : Stmt := top 52
abbrev s_law_names : Stmt := top 53
abbrev s_law_tree : Stmt := top 54
abbrev s_law_atom : Stmt := top 55
abbrev s_law_pattern : Stmt := top 56
abbrev s_law_takes : Stmt := top 58
abbrev s_law_distinct : Stmt := top 59
abbrev s_law_ends_of : Stmt := top 57
abbrev s_law_is_word : Stmt := top 60
abbrev s_law_all_words : Stmt := top 61
abbrev s_law_many_times : Stmt := top 62
abbrev s_law_refused : Stmt := top 63
abbrev s_law_turned_right : Stmt := top 64
abbrev s_law : Stmt := top 65
abbrev s_BadName___init : Stmt := mth 3 0
abbrev s_BadNumber___init : Stmt := mth 6 0
theorem sc_is_name : FnScope ["word", "sign"] ["word"] (defScope s_is_name) := ⟨rfl, rfl, rfl, by decide +kernel, rfl, by decide +kernel, by decide +kernel⟩
theorem sc_is_whole : FnScope ["value"] ["value"] (defScope s_is_whole) := ⟨rfl, rfl, rfl, by decide +kernel, rfl, by decide +kernel, by decide +kernel⟩
theorem sc_is_count : FnScope ["value"] ["value"] (defScope s_is_count) := ⟨rfl, rfl, rfl, by decide +kernel, rfl, by decide +kernel, by decide +kernel⟩
theorem sc_are_names : FnScope ["things", "thing"] ["things"] (defScope s_are_names) := ⟨rfl, rfl, rfl, by decide +kernel, rfl, by decide +kernel, by decide +kernel⟩
theorem sc_in_order : FnScope ["names", "name", "known"] ["names"] (defScope s_in_order) := ⟨rfl, rfl, rfl, by decide +kernel, rfl, by decide +kernel, by decide +kernel⟩
theorem sc_check_lanes : FnScope ["lanes", "lane"] ["lanes"] (defScope s_check_lanes) := ⟨rfl, rfl, rfl, by decide +kernel, rfl, by decide +kernel, by decide +kernel⟩
theorem sc_crossed : FnScope ["one", "two", "first", "second"] ["one", "two"] (defScope s_crossed) := ⟨rfl, rfl, rfl, by decide +kernel, rfl, by decide +kernel, by decide +kernel⟩
theorem sc_read_tree : FnScope ["tree", "start", "one", "two", "firsts", "lasts"] ["tree", "start"] (defScope s_read_tree) := ⟨rfl, rfl, rfl, by decide +kernel, rfl, by decide +kernel, by decide +kernel⟩
theorem sc_Machine___init : FnScope ["self", "atoms", "firsts", "lasts", "pairs", "is_optional"] ["self", "atoms", "firsts", "lasts", "pairs", "is_optional"] (defScope s_Machine___init) := ⟨rfl, rfl, rfl, by decide +kernel, rfl, by decide +kernel, by decide +kernel⟩
theorem sc_made_machine : FnScope ["tree", "atoms", "firsts", "lasts", "pairs", "is_optional", "pair"] ["tree"] (defScope s_made_machine) := ⟨rfl, rfl, rfl, by decide +kernel, rfl, by decide +kernel, by decide +kernel⟩
theorem sc_Machine_takes : FnScope ["self", "atom", "lane", "is_any", "names"] ["self", "atom", "lane"] (defScope s_Machine_takes) := ⟨rfl, rfl, rfl, by decide +kernel, rfl, by decide +kernel, by decide +kernel⟩
theorem sc_Machine_is_behind : FnScope ["self", "places", "atom", "place"] ["self", "places", "atom"] (defScope s_Machine_is_behind) := ⟨rfl, rfl, rfl, by decide +kernel, rfl, by decide +kernel, by decide +kernel⟩
theorem sc_Machine_after : FnScope ["self", "places", "lane", "size", "atom"] ["self", "places", "lane"] (defScope s_Machine_after) := ⟨rfl, rfl, rfl, by decide +kernel, rfl, by decide +kernel, by decide +kernel⟩
theorem sc_Machine_started : FnScope ["self", "lane", "atom"] ["self", "lane"] (defScope s_Machine_started) := ⟨rfl, rfl, rfl, by decide +kernel, rfl, by decide +kernel, by decide +kernel⟩
theorem sc_Machine_is_done : FnScope ["self", "places", "place"] ["self", "places"] (defScope s_Machine_is_done) := ⟨rfl, rfl, rfl, by decide +kernel, rfl, by decide +kernel, by decide +kernel⟩
theorem sc_accepts : FnScope ["machine", "lanes", "places", "lane"] ["machine", "lanes"] (defScope s_accepts) := ⟨rfl, rfl, rfl, by decide +kernel, rfl, by decide +kernel, by decide +kernel⟩
theorem sc_joined : FnScope ["kind", "one", "two"] ["kind", "one", "two"] (defScope s_joined) := ⟨rfl, rfl, rfl, by decide +kernel, rfl, by decide +kernel, by decide +kernel⟩
theorem sc_opposite : FnScope ["tree"] ["tree"] (defScope s_opposite) := ⟨rfl, rfl, rfl, by decide +kernel, rfl, by decide +kernel, by decide +kernel⟩
theorem sc_tree_names : FnScope ["tree", "names", "part"] ["tree"] (defScope s_tree_names) := ⟨rfl, rfl, rfl, by decide +kernel, rfl, by decide +kernel, by decide +kernel⟩
theorem sc_Pattern___init : FnScope ["self", "tree"] ["self", "tree"] (defScope s_Pattern___init) := ⟨rfl, rfl, rfl, by decide +kernel, rfl, by decide +kernel, by decide +kernel⟩
theorem sc_Pattern_names : FnScope ["self"] ["self"] (defScope s_Pattern_names) := ⟨rfl, rfl, rfl, by decide +kernel, rfl, by decide +kernel, by decide +kernel⟩
theorem sc_Pattern___contains : FnScope ["self", "lanes"] ["self", "lanes"] (defScope s_Pattern___contains) := ⟨rfl, rfl, rfl, by decide +kernel, rfl, by decide +kernel, by decide +kernel⟩
theorem sc_Pattern___bool : FnScope ["self"] ["self"] (defScope s_Pattern___bool) := ⟨rfl, rfl, rfl, by decide +kernel, rfl, by decide +kernel, by decide +kernel⟩
theorem sc_Pattern___add : FnScope ["self", "other"] ["self", "other"] (defScope s_Pattern___add) := ⟨rfl, rfl, rfl, by decide +kernel, rfl, by decide +kernel, by decide +kernel⟩
theorem sc_Pattern___or : FnScope ["self", "other"] ["self", "other"] (defScope s_Pattern___or) := ⟨rfl, rfl, rfl, by decide +kernel, rfl, by decide +kernel, by decide +kernel⟩
theorem sc_Pattern___mul : FnScope ["self", "number", "tree", "turn"] ["self", "number"] (defScope s_Pattern___mul) := ⟨rfl, rfl, rfl, by decide +kernel, rfl, by decide +kernel, by decide +kernel⟩
theorem sc_Pattern___neg : FnScope ["self"] ["self"] (defScope s_Pattern___neg) := ⟨rfl, rfl, rfl, by decide +kernel, rfl, by decide +kernel, by decide +kernel⟩
theorem sc_any_of : FnScope ["names"] ["names"] (defScope s_any_of) := ⟨rfl, rfl, rfl, by decide +kernel, rfl, by decide +kernel, by decide +kernel⟩
theorem sc_none_of : FnScope ["names"] ["names"] (defScope s_none_of) := ⟨rfl, rfl, rfl, by decide +kernel, rfl, by decide +kernel, by decide +kernel⟩
theorem sc_word_pattern : FnScope ["names", "tree", "name"] ["names"] (defScope s_word_pattern) := ⟨rfl, rfl, rfl, by decide +kernel, rfl, by decide +kernel, by decide +kernel⟩
theorem sc_walk_of : FnScope ["names"] ["names"] (defScope s_walk_of) := ⟨rfl, rfl, rfl, by decide +kernel, rfl, by decide +kernel, by decide +kernel⟩
theorem sc_repeated : FnScope ["pattern"] ["pattern"] (defScope s_repeated) := ⟨rfl, rfl, rfl, by decide +kernel, rfl, by decide +kernel, by decide +kernel⟩
theorem sc_optional : FnScope ["pattern"] ["pattern"] (defScope s_optional) := ⟨rfl, rfl, rfl, by decide +kernel, rfl, by decide +kernel, by decide +kernel⟩
theorem sc_law_cell : FnScope ["_law_script", "_law_k"] ["_law_script", "_law_k"] (defScope s_law_cell) := ⟨rfl, rfl, rfl, by decide +kernel, rfl, by decide +kernel, by decide +kernel⟩
theorem sc_law_pool : FnScope ["_law_cell_here", "_law_folded"] ["_law_cell_here"] (defScope s_law_pool) := ⟨rfl, rfl, rfl, by decide +kernel, rfl, by decide +kernel, by decide +kernel⟩
theorem sc_law_take : FnScope ["_law_pool_here", "_law_many", "_law_draw", "_law_mixed"] ["_law_pool_here", "_law_many"] (defScope s_law_take) := ⟨rfl, rfl, rfl, by decide +kernel, rfl, by decide +kernel, by decide +kernel⟩
theorem sc_law_names : FnScope ["_law_pool_here", "_law_many", "_law_letters", "_law_signs", "_law_word", "_law_k", "_law_kind", "_law_start", "_law_stem", "_law_place", "_law_told", "_law_names_here", "_law_sign"] ["_law_pool_here", "_law_many"] (defScope s_law_names) := ⟨rfl, rfl, rfl, by decide +kernel, rfl, by decide +kernel, by decide +kernel⟩
theorem sc_law_tree : FnScope ["_law_pool_here", "_law_lanes", "_law_depth", "_law_kind", "_law_many", "_law_k", "_law_some", "_law_one", "_law_two"] ["_law_pool_here", "_law_lanes", "_law_depth"] (defScope s_law_tree) := ⟨rfl, rfl, rfl, by decide +kernel, rfl, by decide +kernel, by decide +kernel⟩
theorem sc_law_atom : FnScope ["_law_kind", "_law_names_here"] ["_law_kind", "_law_names_here"] (defScope s_law_atom) := ⟨rfl, rfl, rfl, by decide +kernel, rfl, by decide +kernel, by decide +kernel⟩
theorem sc_law_pattern : FnScope ["_law_tree_here", "_law_one", "_law_two"] ["_law_tree_here"] (defScope s_law_pattern) := ⟨rfl, rfl, rfl, by decide +kernel, rfl, by decide +kernel, by decide +kernel⟩
theorem sc_law_takes : FnScope ["_law_atom_here", "_law_lane"] ["_law_atom_here", "_law_lane"] (defScope s_law_takes) := ⟨rfl, rfl, rfl, by decide +kernel, rfl, by decide +kernel, by decide +kernel⟩
theorem sc_law_distinct : FnScope ["_law_things", "_law_k", "_law_thing"] ["_law_things"] (defScope s_law_distinct) := ⟨rfl, rfl, rfl, by decide +kernel, rfl, by decide +kernel, by decide +kernel⟩
theorem sc_law_ends_of : FnScope ["_law_tree_here", "_law_lanes", "_law_start", "_law_found", "_law_place", "_law_at"] ["_law_tree_here", "_law_lanes", "_law_start"] (defScope s_law_ends_of) := ⟨rfl, rfl, rfl, by decide +kernel, rfl, by decide +kernel, by decide +kernel⟩
theorem sc_law_is_word : FnScope ["_law_tree_here", "_law_lanes"] ["_law_tree_here", "_law_lanes"] (defScope s_law_is_word) := ⟨rfl, rfl, rfl, by decide +kernel, rfl, by decide +kernel, by decide +kernel⟩
theorem sc_law_all_words : FnScope ["_law_names_here", "_law_most", "_law_rows", "_law_found", "_law_length", "_law_longer", "_law_row", "_law_name"] ["_law_names_here", "_law_most"] (defScope s_law_all_words) := ⟨rfl, rfl, rfl, by decide +kernel, rfl, by decide +kernel, by decide +kernel⟩
theorem sc_law_many_times : FnScope ["_law_tree_here", "_law_number", "_law_whole", "_law_turn"] ["_law_tree_here", "_law_number"] (defScope s_law_many_times) := ⟨rfl, rfl, rfl, by decide +kernel, rfl, by decide +kernel, by decide +kernel⟩
theorem sc_law_refused : FnScope ["_law_pattern_here", "_law_number", "e"] ["_law_pattern_here", "_law_number"] (defScope s_law_refused) := ⟨rfl, rfl, rfl, by decide +kernel, rfl, by decide +kernel, by decide +kernel⟩
theorem sc_law_turned_right : FnScope ["_law_pattern_here", "_law_tree_here", "_law_words", "_law_about", "_law_again", "_law_lanes"] ["_law_pattern_here", "_law_tree_here", "_law_words"] (defScope s_law_turned_right) := ⟨rfl, rfl, rfl, by decide +kernel, rfl, by decide +kernel, by decide +kernel⟩
theorem sc_law : FnScope ["_law_script", "_law_pool_here", "_law_names_here", "_law_one", "_law_two", "_law_first", "_law_second", "_law_number", "_law_made", "_law_words", "_law_pattern_here", "_law_tree_here", "_law_lanes", "_law_wrong", "_law_told", "_law_often", "_law_single", "_law_k", "_law_row", "_law_walk"] ["_law_script"] (defScope s_law) := ⟨rfl, rfl, rfl, by decide +kernel, rfl, by decide +kernel, by decide +kernel⟩
theorem sc_BadName___init : FnScope ["self", "name"] ["self", "name"] (defScope s_BadName___init) := ⟨rfl, rfl, rfl, by decide +kernel, rfl, by decide +kernel, by decide +kernel⟩
theorem sc_BadNumber___init : FnScope ["self", "value"] ["self", "value"] (defScope s_BadNumber___init) := ⟨rfl, rfl, rfl, by decide +kernel, rfl, by decide +kernel, by decide +kernel⟩
/-- what the top leaves -/
structure Tx (K : PySem.W.Frag) (mg : Str → Option Value) : Prop where
  v_LETTERS : ∃ u, mg "LETTERS" = some u ∧ RelV (.str "abcdefghijklmnopqrstuvwxyz") u
  n_len : mg "len" = none
  v_LONGEST : ∃ u, mg "LONGEST" = some u ∧ RelV (.int 8) u
  n_isinstance : mg "isinstance" = none
  n_str : mg "str" = none
  n_all : mg "all" = none
  v_DIGITS : ∃ u, mg "DIGITS" = some u ∧ RelV (.str "0123456789") u
  n_bool : mg "bool" = none
  n_int : mg "int" = none
  g_is_whole : mg "is_whole" = some (.ref (He.ga K "is_whole")) ∧ keepIn K (.ref (He.ga K "is_whole")) = true
  g_is_name : mg "is_name" = some (.ref (He.ga K "is_name")) ∧ keepIn K (.ref (He.ga K "is_name")) = true
  n_list : mg "list" = none
  n_tuple : mg "tuple" = none
  n_sorted : mg "sorted" = none
  x0_EmptyWalk : excIn K (He.ga K "EmptyWalk") He.veBase "ValueError.__new__" = true ∧ keepIn K (.ref (He.ga K "EmptyWalk")) = true ∧ subIn K (.ref (He.ga K "EmptyWalk")) (.type "BaseException") = some true ∧ typeIn K (.ref (He.ga K "EmptyWalk")) = some (.type "type")
  g_EmptyWalk : mg "EmptyWalk" = some (.ref (He.ga K "EmptyWalk")) ∧ keepIn K (.ref (He.ga K "EmptyWalk")) = true
  g_BadName : mg "BadName" = some (.ref (He.ga K "BadName")) ∧ keepIn K (.ref (He.ga K "BadName")) = true
  g_read_tree : mg "read_tree" = some (.ref (He.ga K "read_tree")) ∧ keepIn K (.ref (He.ga K "read_tree")) = true
  g_crossed : mg "crossed" = some (.ref (He.ga K "crossed")) ∧ keepIn K (.ref (He.ga K "crossed")) = true
  mk_Machine : Mk K (He.ga K "Machine") (He.ma K (He.ga K "Machine") "__init__")
  g_Machine : mg "Machine" = some (.ref (He.ga K "Machine")) ∧ keepIn K (.ref (He.ga K "Machine")) = true
  n_any : mg "any" = none
  cl_Machine : Cls K (He.ga K "Machine")
  me_Machine_is_behind : Meth K (He.ga K "Machine") "is_behind" (He.ma K (He.ga K "Machine") "is_behind")
  me_Machine_takes : Meth K (He.ga K "Machine") "takes" (He.ma K (He.ga K "Machine") "takes")
  n_range : mg "range" = none
  me_Machine_started : Meth K (He.ga K "Machine") "started" (He.ma K (He.ga K "Machine") "started")
  me_Machine_after : Meth K (He.ga K "Machine") "after" (He.ma K (He.ga K "Machine") "after")
  me_Machine_is_done : Meth K (He.ga K "Machine") "is_done" (He.ma K (He.ga K "Machine") "is_done")
  g_opposite : mg "opposite" = some (.ref (He.ga K "opposite")) ∧ keepIn K (.ref (He.ga K "opposite")) = true
  g_tree_names : mg "tree_names" = some (.ref (He.ga K "tree_names")) ∧ keepIn K (.ref (He.ga K "tree_names")) = true
  g_in_order : mg "in_order" = some (.ref (He.ga K "in_order")) ∧ keepIn K (.ref (He.ga K "in_order")) = true
  g_accepts : mg "accepts" = some (.ref (He.ga K "accepts")) ∧ keepIn K (.ref (He.ga K "accepts")) = true
  g_made_machine : mg "made_machine" = some (.ref (He.ga K "made_machine")) ∧ keepIn K (.ref (He.ga K "made_machine")) = true
  g_are_names : mg "are_names" = some (.ref (He.ga K "are_names")) ∧ keepIn K (.ref (He.ga K "are_names")) = true
  g_Pattern : mg "Pattern" = some (.ref (He.ga K "Pattern")) ∧ keepIn K (.ref (He.ga K "Pattern")) = true
  mk_Pattern : Mk K (He.ga K "Pattern") (He.ma K (He.ga K "Pattern") "__init__")
  g_joined : mg "joined" = some (.ref (He.ga K "joined")) ∧ keepIn K (.ref (He.ga K "joined")) = true
  g_is_count : mg "is_count" = some (.ref (He.ga K "is_count")) ∧ keepIn K (.ref (He.ga K "is_count")) = true
  g_BadNumber : mg "BadNumber" = some (.ref (He.ga K "BadNumber")) ∧ keepIn K (.ref (He.ga K "BadNumber")) = true
  g_check_lanes : mg "check_lanes" = some (.ref (He.ga K "check_lanes")) ∧ keepIn K (.ref (He.ga K "check_lanes")) = true
  g_word_pattern : mg "word_pattern" = some (.ref (He.ga K "word_pattern")) ∧ keepIn K (.ref (He.ga K "word_pattern")) = true
  g_law_take : mg "_law_take" = some (.ref (He.ga K "_law_take")) ∧ keepIn K (.ref (He.ga K "_law_take")) = true
  g_law_tree : mg "_law_tree" = some (.ref (He.ga K "_law_tree")) ∧ keepIn K (.ref (He.ga K "_law_tree")) = true
  g_none_of : mg "none_of" = some (.ref (He.ga K "none_of")) ∧ keepIn K (.ref (He.ga K "none_of")) = true
  g_any_of : mg "any_of" = some (.ref (He.ga K "any_of")) ∧ keepIn K (.ref (He.ga K "any_of")) = true
  g_law_atom : mg "_law_atom" = some (.ref (He.ga K "_law_atom")) ∧ keepIn K (.ref (He.ga K "_law_atom")) = true
  g_law_pattern : mg "_law_pattern" = some (.ref (He.ga K "_law_pattern")) ∧ keepIn K (.ref (He.ga K "_law_pattern")) = true
  g_repeated : mg "repeated" = some (.ref (He.ga K "repeated")) ∧ keepIn K (.ref (He.ga K "repeated")) = true
  g_optional : mg "optional" = some (.ref (He.ga K "optional")) ∧ keepIn K (.ref (He.ga K "optional")) = true
  bo_Pattern_BitOr : Bo K (He.ga K "Pattern") .BitOr (He.ma K (He.ga K "Pattern") "__or__")
  bo_Pattern_Add : Bo K (He.ga K "Pattern") .Add (He.ma K (He.ga K "Pattern") "__add__")
  n_enumerate : mg "enumerate" = none
  g_law_takes : mg "_law_takes" = some (.ref (He.ga K "_law_takes")) ∧ keepIn K (.ref (He.ga K "_law_takes")) = true
  g_law_ends_of : mg "_law_ends_of" = some (.ref (He.ga K "_law_ends_of")) ∧ keepIn K (.ref (He.ga K "_law_ends_of")) = true
  g_law_distinct : mg "_law_distinct" = some (.ref (He.ga K "_law_distinct")) ∧ keepIn K (.ref (He.ga K "_law_distinct")) = true
  sm_Pattern_bool : Sm K (He.ga K "Pattern") "__bool__" (He.ma K (He.ga K "Pattern") "__bool__")
  bo_Pattern_Mult : Bo K (He.ga K "Pattern") .Mult (He.ma K (He.ga K "Pattern") "__mul__")
  xc_BadNumber : Xc K (He.ga K "BadNumber")
  xn_BadNumber_value : findIn K (.ref (He.ga K "BadNumber")) "value" = some none
  sm_Pattern_neg : Sm K (He.ga K "Pattern") "__neg__" (He.ma K (He.ga K "Pattern") "__neg__")
  sm_Pattern_contains : Sm K (He.ga K "Pattern") "__contains__" (He.ma K (He.ga K "Pattern") "__contains__")
  g_law_is_word : mg "_law_is_word" = some (.ref (He.ga K "_law_is_word")) ∧ keepIn K (.ref (He.ga K "_law_is_word")) = true
  cl_Pattern : Cls K (He.ga K "Pattern")
  pr_Pattern_names : PropOf K (He.ga K "Pattern") "names" (He.ma K (He.ga K "Pattern") "names") (pga K (He.ga K "Pattern") "names")
  g_law_pool : mg "_law_pool" = some (.ref (He.ga K "_law_pool")) ∧ keepIn K (.ref (He.ga K "_law_pool")) = true
  g_law_cell : mg "_law_cell" = some (.ref (He.ga K "_law_cell")) ∧ keepIn K (.ref (He.ga K "_law_cell")) = true
  g_law_names : mg "_law_names" = some (.ref (He.ga K "_law_names")) ∧ keepIn K (.ref (He.ga K "_law_names")) = true
  g_law_many_times : mg "_law_many_times" = some (.ref (He.ga K "_law_many_times")) ∧ keepIn K (.ref (He.ga K "_law_many_times")) = true
  g_law_all_words : mg "_law_all_words" = some (.ref (He.ga K "_law_all_words")) ∧ keepIn K (.ref (He.ga K "_law_all_words")) = true
  g_law_turned_right : mg "_law_turned_right" = some (.ref (He.ga K "_law_turned_right")) ∧ keepIn K (.ref (He.ga K "_law_turned_right")) = true
  g_law_refused : mg "_law_refused" = some (.ref (He.ga K "_law_refused")) ∧ keepIn K (.ref (He.ga K "_law_refused")) = true
  g_walk_of : mg "walk_of" = some (.ref (He.ga K "walk_of")) ∧ keepIn K (.ref (He.ga K "walk_of")) = true
  xc_BadName : Xc K (He.ga K "BadName")
  xi_BadName : findIn K (.ref (He.ga K "BadName")) "__init__" = some (some (.ref (He.ma K (He.ga K "BadName") "__init__"))) ∧ typeIn K (.ref (He.ma K (He.ga K "BadName") "__init__")) = some (.type "function")
  xn_BadName_name : findIn K (.ref (He.ga K "BadName")) "name" = some none
  xi_BadNumber : findIn K (.ref (He.ga K "BadNumber")) "__init__" = some (some (.ref (He.ma K (He.ga K "BadNumber") "__init__"))) ∧ typeIn K (.ref (He.ma K (He.ga K "BadNumber") "__init__")) = some (.type "function")
  g_law : mg "law" = some (.ref (He.ga K "law")) ∧ keepIn K (.ref (He.ga K "law")) = true
  kt_NoneType_str : kitOne K (.type "NoneType") (.type "str") = some false
  kt_bool_str : kitOne K (.type "bool") (.type "str") = some false
  kt_int_str : kitOne K (.type "int") (.type "str") = some false
  kt_list_str : kitOne K (.type "list") (.type "str") = some false
  kt_tuple_str : kitOne K (.type "tuple") (.type "str") = some false
  kt_str_str : kitOne K (.type "str") (.type "str") = some true
  kt_NoneType_int : kitOne K (.type "NoneType") (.type "int") = some false
  kt_str_int : kitOne K (.type "str") (.type "int") = some false
  kt_list_int : kitOne K (.type "list") (.type "int") = some false
  kt_tuple_int : kitOne K (.type "tuple") (.type "int") = some false
  kt_int_int : kitOne K (.type "int") (.type "int") = some true
  kt_int_bool : kitOne K (.type "int") (.type "bool") = some false
  kt_bool_int : kitOne K (.type "bool") (.type "int") = some true
  kt_bool_bool : kitOne K (.type "bool") (.type "bool") = some true
  kt_NoneType_tuple : kitOne K (.type "NoneType") (.type "tuple") = some false
  kt_NoneType_list : kitOne K (.type "NoneType") (.type "list") = some false
  kt_str_tuple : kitOne K (.type "str") (.type "tuple") = some false
  kt_str_list : kitOne K (.type "str") (.type "list") = some false
  kt_int_tuple : kitOne K (.type "int") (.type "tuple") = some false
  kt_int_list : kitOne K (.type "int") (.type "list") = some false
  kt_dict_tuple : kitOne K (.type "dict") (.type "tuple") = some false
  kt_dict_list : kitOne K (.type "dict") (.type "list") = some false
  kt_tuple_tuple : kitOne K (.type "tuple") (.type "tuple") = some true
  kt_tuple_list : kitOne K (.type "tuple") (.type "list") = some false
  kt_list_tuple : kitOne K (.type "list") (.type "tuple") = some false
  kt_list_list : kitOne K (.type "list") (.type "list") = some true
  na_Machine_atoms : NoAttr K (He.ga K "Machine") "atoms"
  na_Machine_firsts : NoAttr K (He.ga K "Machine") "firsts"
  na_Machine_lasts : NoAttr K (He.ga K "Machine") "lasts"
  na_Machine_pairs : NoAttr K (He.ga K "Machine") "pairs"
  na_Machine_is_optional : NoAttr K (He.ga K "Machine") "is_optional"
  np_0 : NoP K
  na_Pattern_tree : NoAttr K (He.ga K "Pattern") "tree"
  ci_Pattern : ClsI K (He.ga K "Pattern")
  ko_Pattern_Pattern : kitOne K (.ref (He.ga K "Pattern")) (.ref (He.ga K "Pattern")) = some true
  bt_Pattern_Mult_NoneType : BoT K (He.ga K "Pattern") .Mult "NoneType"
  bt_Pattern_Mult_bool : BoT K (He.ga K "Pattern") .Mult "bool"
  bt_Pattern_Mult_int : BoT K (He.ga K "Pattern") .Mult "int"
  bt_Pattern_Mult_list : BoT K (He.ga K "Pattern") .Mult "list"
  bt_Pattern_Mult_tuple : BoT K (He.ga K "Pattern") .Mult "tuple"
  bt_Pattern_Mult_str : BoT K (He.ga K "Pattern") .Mult "str"
  ex_BadNumber_BadNumber : exmOne K (.ref (He.ga K "BadNumber")) (.ref (He.ga K "BadNumber")) = some true
  kt_NoneType_bool : kitOne K (.type "NoneType") (.type "bool") = some false
  kt_str_bool : kitOne K (.type "str") (.type "bool") = some false
  kt_tuple_bool : kitOne K (.type "tuple") (.type "bool") = some false
  d_is_name : ∃ fd, FunD K "is_name" "is_name" (defArgs s_is_name) (defBody s_is_name) (defScope s_is_name) [] [] (He.ga K "is_name") fd
  d_is_whole : ∃ fd, FunD K "is_whole" "is_whole" (defArgs s_is_whole) (defBody s_is_whole) (defScope s_is_whole) [] [] (He.ga K "is_whole") fd
  d_is_count : ∃ fd, FunD K "is_count" "is_count" (defArgs s_is_count) (defBody s_is_count) (defScope s_is_count) [] [] (He.ga K "is_count") fd
  d_are_names : ∃ fd, FunD K "are_names" "are_names" (defArgs s_are_names) (defBody s_are_names) (defScope s_are_names) [] [] (He.ga K "are_names") fd
  d_in_order : ∃ fd, FunD K "in_order" "in_order" (defArgs s_in_order) (defBody s_in_order) (defScope s_in_order) [] [] (He.ga K "in_order") fd
  d_check_lanes : ∃ fd, FunD K "check_lanes" "check_lanes" (defArgs s_check_lanes) (defBody s_check_lanes) (defScope s_check_lanes) [] [] (He.ga K "check_lanes") fd
  d_crossed : ∃ fd, FunD K "crossed" "crossed" (defArgs s_crossed) (defBody s_crossed) (defScope s_crossed) [] [] (He.ga K "crossed") fd
  d_read_tree : ∃ fd, FunD K "read_tree" "read_tree" (defArgs s_read_tree) (defBody s_read_tree) (defScope s_read_tree) [] [] (He.ga K "read_tree") fd
  d_Machine___init : ∃ fd, FunD K "__init__" "Machine.__init__" (defArgs s_Machine___init) (defBody s_Machine___init) (defScope s_Machine___init) [] [] (He.ma K (He.ga K "Machine") "__init__") fd
  d_made_machine : ∃ fd, FunD K "made_machine" "made_machine" (defArgs s_made_machine) (defBody s_made_machine) (defScope s_made_machine) [] [] (He.ga K "made_machine") fd
  d_Machine_takes : ∃ fd, FunD K "takes" "Machine.takes" (defArgs s_Machine_takes) (defBody s_Machine_takes) (defScope s_Machine_takes) [] [] (He.ma K (He.ga K "Machine") "takes") fd
  d_Machine_is_behind : ∃ fd, FunD K "is_behind" "Machine.is_behind" (defArgs s_Machine_is_behind) (defBody s_Machine_is_behind) (defScope s_Machine_is_behind) [] [] (He.ma K (He.ga K "Machine") "is_behind") fd
  d_Machine_after : ∃ fd, FunD K "after" "Machine.after" (defArgs s_Machine_after) (defBody s_Machine_after) (defScope s_Machine_after) [] [] (He.ma K (He.ga K "Machine") "after") fd
  d_Machine_started : ∃ fd, FunD K "started" "Machine.started" (defArgs s_Machine_started) (defBody s_Machine_started) (defScope s_Machine_started) [] [] (He.ma K (He.ga K "Machine") "started") fd
  d_Machine_is_done : ∃ fd, FunD K "is_done" "Machine.is_done" (defArgs s_Machine_is_done) (defBody s_Machine_is_done) (defScope s_Machine_is_done) [] [] (He.ma K (He.ga K "Machine") "is_done") fd
  d_accepts : ∃ fd, FunD K "accepts" "accepts" (defArgs s_accepts) (defBody s_accepts) (defScope s_accepts) [] [] (He.ga K "accepts") fd
  d_joined : ∃ fd, FunD K "joined" "joined" (defArgs s_joined) (defBody s_joined) (defScope s_joined) [] [] (He.ga K "joined") fd
  d_opposite : ∃ fd, FunD K "opposite" "opposite" (defArgs s_opposite) (defBody s_opposite) (defScope s_opposite) [] [] (He.ga K "opposite") fd
  d_tree_names : ∃ fd, FunD K "tree_names" "tree_names" (defArgs s_tree_names) (defBody s_tree_names) (defScope s_tree_names) [] [] (He.ga K "tree_names") fd
  d_Pattern___init : ∃ fd, FunD K "__init__" "Pattern.__init__" (defArgs s_Pattern___init) (defBody s_Pattern___init) (defScope s_Pattern___init) [] [] (He.ma K (He.ga K "Pattern") "__init__") fd
  d_Pattern_names : ∃ fd, FunD K "names" "Pattern.names" (defArgs s_Pattern_names) (defBody s_Pattern_names) (defScope s_Pattern_names) [] [] (pga K (He.ga K "Pattern") "names") fd
  d_Pattern___contains : ∃ fd, FunD K "__contains__" "Pattern.__contains__" (defArgs s_Pattern___contains) (defBody s_Pattern___contains) (defScope s_Pattern___contains) [] [] (He.ma K (He.ga K "Pattern") "__contains__") fd
  d_Pattern___bool : ∃ fd, FunD K "__bool__" "Pattern.__bool__" (defArgs s_Pattern___bool) (defBody s_Pattern___bool) (defScope s_Pattern___bool) [] [] (He.ma K (He.ga K "Pattern") "__bool__") fd
  d_Pattern___add : ∃ fd, FunD K "__add__" "Pattern.__add__" (defArgs s_Pattern___add) (defBody s_Pattern___add) (defScope s_Pattern___add) [] [] (He.ma K (He.ga K "Pattern") "__add__") fd
  d_Pattern___or : ∃ fd, FunD K "__or__" "Pattern.__or__" (defArgs s_Pattern___or) (defBody s_Pattern___or) (defScope s_Pattern___or) [] [] (He.ma K (He.ga K "Pattern") "__or__") fd
  d_Pattern___mul : ∃ fd, FunD K "__mul__" "Pattern.__mul__" (defArgs s_Pattern___mul) (defBody s_Pattern___mul) (defScope s_Pattern___mul) [] [] (He.ma K (He.ga K "Pattern") "__mul__") fd
  d_Pattern___neg : ∃ fd, FunD K "__neg__" "Pattern.__neg__" (defArgs s_Pattern___neg) (defBody s_Pattern___neg) (defScope s_Pattern___neg) [] [] (He.ma K (He.ga K "Pattern") "__neg__") fd
  d_any_of : ∃ fd, FunD K "any_of" "any_of" (defArgs s_any_of) (defBody s_any_of) (defScope s_any_of) [] [] (He.ga K "any_of") fd
  d_none_of : ∃ fd, FunD K "none_of" "none_of" (defArgs s_none_of) (defBody s_none_of) (defScope s_none_of) [] [] (He.ga K "none_of") fd
  d_word_pattern : ∃ fd, FunD K "word_pattern" "word_pattern" (defArgs s_word_pattern) (defBody s_word_pattern) (defScope s_word_pattern) [] [] (He.ga K "word_pattern") fd
  d_walk_of : ∃ fd, FunD K "walk_of" "walk_of" (defArgs s_walk_of) (defBody s_walk_of) (defScope s_walk_of) [] [] (He.ga K "walk_of") fd
  d_repeated : ∃ fd, FunD K "repeated" "repeated" (defArgs s_repeated) (defBody s_repeated) (defScope s_repeated) [] [] (He.ga K "repeated") fd
  d_optional : ∃ fd, FunD K "optional" "optional" (defArgs s_optional) (defBody s_optional) (defScope s_optional) [] [] (He.ga K "optional") fd
  d_law_cell : ∃ fd, FunD K "_law_cell" "_law_cell" (defArgs s_law_cell) (defBody s_law_cell) (defScope s_law_cell) [] [] (He.ga K "_law_cell") fd
  d_law_pool : ∃ fd, FunD K "_law_pool" "_law_pool" (defArgs s_law_pool) (defBody s_law_pool) (defScope s_law_pool) [] [] (He.ga K "_law_pool") fd
  d_law_take : ∃ fd, FunD K "_law_take" "_law_take" (defArgs s_law_take) (defBody s_law_take) (defScope s_law_take) [] [] (He.ga K "_law_take") fd
  d_law_names : ∃ fd, FunD K "_law_names" "_law_names" (defArgs s_law_names) (defBody s_law_names) (defScope s_law_names) [] [] (He.ga K "_law_names") fd
  d_law_tree : ∃ fd, FunD K "_law_tree" "_law_tree" (defArgs s_law_tree) (defBody s_law_tree) (defScope s_law_tree) [] [] (He.ga K "_law_tree") fd
  d_law_atom : ∃ fd, FunD K "_law_atom" "_law_atom" (defArgs s_law_atom) (defBody s_law_atom) (defScope s_law_atom) [] [] (He.ga K "_law_atom") fd
  d_law_pattern : ∃ fd, FunD K "_law_pattern" "_law_pattern" (defArgs s_law_pattern) (defBody s_law_pattern) (defScope s_law_pattern) [] [] (He.ga K "_law_pattern") fd
  d_law_takes : ∃ fd, FunD K "_law_takes" "_law_takes" (defArgs s_law_takes) (defBody s_law_takes) (defScope s_law_takes) [] [] (He.ga K "_law_takes") fd
  d_law_distinct : ∃ fd, FunD K "_law_distinct" "_law_distinct" (defArgs s_law_distinct) (defBody s_law_distinct) (defScope s_law_distinct) [] [] (He.ga K "_law_distinct") fd
  d_law_ends_of : ∃ fd, FunD K "_law_ends_of" "_law_ends_of" (defArgs s_law_ends_of) (defBody s_law_ends_of) (defScope s_law_ends_of) [] [] (He.ga K "_law_ends_of") fd
  d_law_is_word : ∃ fd, FunD K "_law_is_word" "_law_is_word" (defArgs s_law_is_word) (defBody s_law_is_word) (defScope s_law_is_word) [] [] (He.ga K "_law_is_word") fd
  d_law_all_words : ∃ fd, FunD K "_law_all_words" "_law_all_words" (defArgs s_law_all_words) (defBody s_law_all_words) (defScope s_law_all_words) [] [] (He.ga K "_law_all_words") fd
  d_law_many_times : ∃ fd, FunD K "_law_many_times" "_law_many_times" (defArgs s_law_many_times) (defBody s_law_many_times) (defScope s_law_many_times) [] [] (He.ga K "_law_many_times") fd
  d_law_refused : ∃ fd, FunD K "_law_refused" "_law_refused" (defArgs s_law_refused) (defBody s_law_refused) (defScope s_law_refused) [] [] (He.ga K "_law_refused") fd
  d_law_turned_right : ∃ fd, FunD K "_law_turned_right" "_law_turned_right" (defArgs s_law_turned_right) (defBody s_law_turned_right) (defScope s_law_turned_right) [] [] (He.ga K "_law_turned_right") fd
  d_law : ∃ fd, FunD K "law" "law" (defArgs s_law) (defBody s_law) (defScope s_law) [] [] (He.ga K "law") fd
  d_BadName___init : ∃ fd, FunD K "__init__" "BadName.__init__" (defArgs s_BadName___init) (defBody s_BadName___init) (defScope s_BadName___init) [] [] (He.ma K (He.ga K "BadName") "__init__") fd
  d_BadNumber___init : ∃ fd, FunD K "__init__" "BadNumber.__init__" (defArgs s_BadNumber___init) (defBody s_BadNumber___init) (defScope s_BadNumber___init) [] [] (He.ma K (He.ga K "BadNumber") "__init__") fd
section
variable {P : Program} {w : World} {K : PySem.W.Frag} {mg : Str → Option Value} {base : Heap}
end
def ct_is_name (K : PySem.W.Frag) : Ct := Ct1 fun a ka out => ∃ d, a = .val d ∧ nmOk d ∧ ka = [] ∧ out = Rt (.bl (isNmD d)) []
section
variable {P : Program} {w : World} {K : PySem.W.Frag} {mg : Str → Option Value} {base : Heap}
theorem ok_is_name (T : Tx K mg) : Fn P w K mg base 4 (He.ga K "is_name") ["word"] (ct_is_name K) := by
  obtain ⟨fd, F⟩ := T.d_is_name
  refine fn_ok F sc_is_name (fun _ _ _ _ _ _ us hl => match us, hl with | [_], _ => rfl) ct1_len (fun cdv A outer s H E hr => ⟨_, (pss_cons (ps_if (PW.pt (pw_or (pt_not (pt_val (pe_callB call_isi rfl T.n_isinstance (by decide +kernel) (pa_cons (pv 0) (pa_cons (pe_bltn (v := .ty "str") rfl T.n_str (by decide +kernel) rfl) pa_nil))))) (pw_or (pt_cmpR (op_eqP (by have := (hr).units; exact this)) (pv 0) pe_str (nomark _)) (pw_or (pt_cmpR op_gt (pe_callB call_lenU rfl T.n_len (by decide +kernel) (pa_cons (pv 0) pa_nil)) (pe_gv rfl T.v_LONGEST) (nomark _)) (pw_or1 (pt_cmpR op_niU (pe_ix ix_seq (pv 0) pe_int fun _ _ => rfl) (pe_gv rfl T.v_LETTERS) (by with_unfolding_all rfl)))))))
      (pss_one (ps_ret pe_bl))
      pss_nil)
      (pss_one (ps_ret (pe_callB (cr_all rfl) rfl T.n_all (by decide +kernel) (pa_cons (pe_lc (te := (tOrV (tOp (rInU K) (tVar 1) (tC (.str "abcdefghijklmnopqrstuvwxyz"))) (tOp (rInU K) (tVar 1) (tC (.str "0123456789"))))) (tt := tYes) (own := [("sign", 1)]) rfl sc_is_name.nd (pi_seq (pv 0)) (blk_ok ["word", "sign"] (defScope s_is_name) rfl rfl (by decide +kernel)) (fun _ _ _ _ _ => (pg_name (i := 1) sc_is_name.nd rfl (by first | exact Or.inl rfl | exact Or.inr rfl))) (fun _ _ _ _ _ => pts_nil) (fun _ _ _ _ _ => (pe_or (pe_cmpR op_inU (pv 1) (pe_gv rfl T.v_LETTERS) (by with_unfolding_all rfl)) (pe_one (pe_cmpR op_inU (pv 1) (pe_gv rfl T.v_DIGITS) (by with_unfolding_all rfl)))))) pa_nil))))), fun ws ka out B F0 Q hC hR hX => ?_⟩)
  obtain ⟨a, rfl, d, rfl, hd, rfl, rfl⟩ := hC
  have other : (∃ s, d = .str s) ∨ ∃ t, tyD d = some t ∧ kitOne K (.type t) (.type "str") = some false ∧ isNmD d = false := by
    cases d with
    | non => exact .inr ⟨_, rfl, T.kt_NoneType_str, rfl⟩
    | bl b => exact .inr ⟨_, rfl, T.kt_bool_str, rfl⟩
    | int i => exact .inr ⟨_, rfl, T.kt_int_str, rfl⟩
    | lst ds => exact .inr ⟨_, rfl, T.kt_list_str, rfl⟩
    | tup ds => exact .inr ⟨_, rfl, T.kt_tuple_str, rfl⟩
    | str s => exact .inl ⟨s, rfl⟩
    | _ => exact absurd rfl hd
  rcases other with ⟨s, rfl⟩ | ⟨t, ht, hk, hn⟩
  · have hs : s.length ≤ 100000 := Nat.le_trans hd (by decide)
    cases hc : s.cps.toList with
    | nil =>
      have e := str_nil hc
      refine q_when (et_or0 ((et_not (et_B (ev_isi (ev_var rfl) .str T.kt_str_str))).to rfl) (et_or1 ((et_test (ev_eqS (ev_var rfl) ev_str)).to (by rw [e]; rfl)))) (fun _ => g_ret hR ev_bl ⟨?_, rfl⟩) (fun z => by cases z)
      show Out.ret (.bl false) = Out.ret (.bl (isNm s))
      unfold isNm
      rw [hc]
      rfl
    | cons c r =>
      have e : (s == ("" : Str)) = false := by
        refine beq_eq_false_iff_ne.mpr fun z => ?_
        rw [z] at hc
        cases hc
      have hl : s.length = (c :: r).length := by rw [str_len, hc]
      refine q_when (et_or0 ((et_not (et_B (ev_isi (ev_var rfl) .str T.kt_str_str))).to rfl) (et_or0 ((et_test (ev_eqS (ev_var rfl) ev_str)).to e) (et_or (et_test (ev_gt (ev_lenS (ev_var rfl) hs) ev_int)) (fun _ => et_test (ev_niS (ev_ixS (c := c) (ev_var rfl) ev_int hs (by rw [hc]; exact at0)) ev_str))))) (fun hb => g_ret hR ev_bl ⟨?_, rfl⟩) (fun hb => ?_)
      · show Out.ret (.bl false) = Out.ret (.bl (isNm s))
        unfold isNm nmL
        rw [hc]
        rw [Bool.or_eq_true, decide_eq_true_eq, Bool.not_eq_true', decide_eq_false_iff_not] at hb
        rcases hb with hb | hb
        · have : ¬ (c :: r).length ≤ 8 := by rw [← hl]; omega
          simp only [decide_eq_false this, Bool.false_and]
        · have : decide (c ∈ letL) = false := decide_eq_false hb
          simp only [this, Bool.false_and, Bool.and_false]
      · rw [Bool.or_eq_false_iff, decide_eq_false_iff_not, Bool.not_eq_false', decide_eq_true_eq] at hb
        refine g_ret hR (ev_cb (ea1 (evn_map (f := fun x => D.bl (decide (x ∈ letL) || decide (x ∈ digL))) (ei_str (ev_var rfl)) (by decide) (by rw [← str_len]; omega) ⟨trivial, fun _ => trivial⟩ (fun x hx => ev_orV (ev_inS (ev_var rfl) ev_str) fun _ => ev_inS (ev_var rfl) ev_str)).lst) (rc_all (b := false) (bs := s.cps.toList.map fun x => decide (x ∈ letL) || decide (x ∈ digL)) ?_)) ⟨?_, rfl⟩
        · rw [List.map_map]
          exact .vl
        · show Out.ret _ = Out.ret (.bl (isNm s))
          unfold isNm nmL
          rw [hc, List.all_map]
          have h1 : (c :: r).length ≤ 8 := by rw [← hl]; omega
          have h2 : decide (c ∈ letL) = true := decide_eq_true hb.2
          simp only [decide_eq_true h1, h2, Bool.true_and]
          rfl
  · exact q_when (et_or1 ((et_not (et_B (ev_isi (ev_var rfl) (tw_of ht) hk))).to rfl)) (fun _ => g_ret hR ev_bl ⟨by rw [hn], rfl⟩) (fun z => by cases z)
end
def ct_is_whole (K : PySem.W.Frag) : Ct := Ct1 fun a ka out => ∃ d, a = .val d ∧ tyD d ≠ none ∧ ka = [] ∧ out = Rt (.bl (isWh d)) []
section
variable {P : Program} {w : World} {K : PySem.W.Frag} {mg : Str → Option Value} {base : Heap}
theorem ok_is_whole (T : Tx K mg) : Fn P w K mg base 4 (He.ga K "is_whole") ["value"] (ct_is_whole K) := by
  obtain ⟨fd, F⟩ := T.d_is_whole
  refine fn_ok F sc_is_whole (fun _ _ _ _ _ _ us hl => match us, hl with | [_], _ => rfl) ct1_len (fun cdv A outer s H E hr => ⟨_, (pss_one (ps_ret (pe_and (pe_callB call_isi rfl T.n_isinstance (by decide +kernel) (pa_cons (pv 0) (pa_cons (pe_bltn (v := .ty "int") rfl T.n_int (by decide +kernel) rfl) pa_nil))) (pe_one (pe_not (pe_callB call_isi rfl T.n_isinstance (by decide +kernel) (pa_cons (pv 0) (pa_cons (pe_bltn (v := .ty "bool") rfl T.n_bool (by decide +kernel) rfl) pa_nil)))))))), fun ws ka out B F0 Q hC hR hX => ?_⟩)
  obtain ⟨a, rfl, d, rfl, hd, rfl, rfl⟩ := hC
  have other : (∃ i, d = .int i) ∨ (∃ b, d = .bl b) ∨ ∃ t, tyD d = some t ∧ kitOne K (.type t) (.type "int") = some false ∧ isWh d = false := by
    cases d with
    | non => exact .inr (.inr ⟨_, rfl, T.kt_NoneType_int, rfl⟩)
    | str b => exact .inr (.inr ⟨_, rfl, T.kt_str_int, rfl⟩)
    | lst ds => exact .inr (.inr ⟨_, rfl, T.kt_list_int, rfl⟩)
    | tup ds => exact .inr (.inr ⟨_, rfl, T.kt_tuple_int, rfl⟩)
    | int i => exact .inl ⟨i, rfl⟩
    | bl b => exact .inr (.inl ⟨b, rfl⟩)
    | _ => exact absurd rfl hd
  rcases other with ⟨i, rfl⟩ | ⟨b, rfl⟩ | ⟨t, ht, hk, hn⟩
  · exact g_ret hR (ev_andV1 (ev_isi (ev_var rfl) .int T.kt_int_int) (ev_notV (ev_isi (ev_var rfl) .int T.kt_int_bool))) ⟨rfl, rfl⟩
  · exact g_ret hR (ev_andV1 (ev_isi (ev_var rfl) .bl T.kt_bool_int) (ev_notV (ev_isi (ev_var rfl) .bl T.kt_bool_bool))) ⟨rfl, rfl⟩
  · exact g_ret hR (ev_andV0 (ev_isi (ev_var rfl) (tw_of ht) hk)) ⟨by rw [hn], rfl⟩
end
/-- is it a number from 0 on -/
def isCt : D → Bool
  | .int i => decide (0 ≤ i)
  | _ => false
def ct_is_count (K : PySem.W.Frag) : Ct := Ct1 fun a ka out => ∃ d, a = .val d ∧ tyD d ≠ none ∧ ka = [] ∧ out = Rt (.bl (isCt d)) []
section
variable {P : Program} {w : World} {K : PySem.W.Frag} {mg : Str → Option Value} {base : Heap}
theorem ok_is_count (T : Tx K mg) (F_is_whole : Fn P w K mg base 4 (He.ga K "is_whole") ["value"] (ct_is_whole K)) : Fn P w K mg base 6 (He.ga K "is_count") ["value"] (ct_is_count K) := by
  obtain ⟨fd, F⟩ := T.d_is_count
  refine fn_ok F sc_is_count (fun _ _ _ _ _ _ us hl => match us, hl with | [_], _ => rfl) ct1_len (fun cdv A outer s H E hr => ⟨_, (pss_one (ps_ret (pe_and (pe_call (F_is_whole.up (by decide)).ok hr rfl T.g_is_whole.1 T.g_is_whole.2 (F_is_whole.up (by decide)).bn .nil (pass_own rfl rfl rfl rfl) (pa_cons (pv 0) pa_nil)) (pe_one (pe_cmpR op_ge (pv 0) pe_int (nomark _)))))), fun ws ka out B F0 Q hC hR hX => ?_⟩)
  obtain ⟨a, rfl, d, rfl, hd, rfl, rfl⟩ := hC
  cases hw : isWh d with
  | false => exact g_ret hR (ev_andV0 ((ev_callP (ea1 (ev_var rfl)) ⟨_, rfl, d, rfl, hd, rfl, rfl⟩).to (by rw [hw]))) ⟨(by cases d <;> first | rfl | cases hw), rfl⟩
  | true =>
    cases d with
    | int i => exact g_ret hR (ev_andV1 (ev_callP (ea1 (ev_var rfl)) ⟨_, rfl, .int i, rfl, hd, rfl, rfl⟩) (ev_ge (ev_var rfl) ev_int)) ⟨rfl, rfl⟩
    | _ => cases hw
end
def anB : D → Bool
  | .tup ds => ds.all isNmD
  | .lst ds => ds.all isNmD
  | _ => false
/-- things that may be asked about -/
def anOk : D → Prop
  | .non => True | .str _ => True | .int _ => True | .dic _ => True
  | .tup ds => ds.length ≤ 1000 ∧ ∀ d ∈ ds, nmOk d
  | .lst ds => ds.length ≤ 1000 ∧ ∀ d ∈ ds, nmOk d
  | _ => False
def ct_are_names (K : PySem.W.Frag) : Ct := Ct1 fun a ka out => ∃ d, a = .val d ∧ anOk d ∧ ka = [] ∧ out = Rt (.bl (anB d)) []
section
variable {P : Program} {w : World} {K : PySem.W.Frag} {mg : Str → Option Value} {base : Heap}
theorem ok_are_names (T : Tx K mg) (F_is_name : Fn P w K mg base 4 (He.ga K "is_name") ["word"] (ct_is_name K)) : Fn P w K mg base 6 (He.ga K "are_names") ["things"] (ct_are_names K) := by
  obtain ⟨fd, F⟩ := T.d_are_names
  refine fn_ok F sc_are_names (fun _ _ _ _ _ _ us hl => match us, hl with | [_], _ => rfl) ct1_len (fun cdv A outer s H E hr => ⟨_, (pss_one (ps_ret (pe_and (pe_callB call_isiU rfl T.n_isinstance (by decide +kernel) (pa_cons (pv 0) (pa_cons (pe_tup (pa_cons (pe_bltn (v := .ty "tuple") rfl T.n_tuple (by decide +kernel) rfl) (pa_cons (pe_bltn (v := .ty "list") rfl T.n_list (by decide +kernel) rfl) pa_nil))) pa_nil))) (pe_one (pe_callB (cr_all rfl) rfl T.n_all (by decide +kernel) (pa_cons (pe_lc (te := (tCall (spC K (ct_is_name K)) [] (fun _ _ _ => False) (tCons (tVar 1) tNil))) (tt := tYes) (own := [("thing", 1)]) rfl sc_are_names.nd (pi_seq (pv 0)) (blk_ok ["things", "thing"] (defScope s_are_names) rfl rfl (by decide +kernel)) (fun _ _ _ _ _ => (pg_name (i := 1) sc_are_names.nd rfl (by first | exact Or.inl rfl | exact Or.inr rfl))) (fun _ _ _ _ _ => pts_nil) (fun _ _ _ _ _ => (pe_call (F_is_name.up (by decide)).ok hr rfl T.g_is_name.1 T.g_is_name.2 (F_is_name.up (by decide)).bn .nil passes_no (pa_cons (pv 1) pa_nil)))) pa_nil)))))), fun ws ka out B F0 Q hC hR hX => ?_⟩)
  obtain ⟨a, rfl, d, rfl, hd, rfl, rfl⟩ := hC
  have seq : ∀ (ds : List D) {t : Bool} {w : W}, Lk [] w t ds false → ds.length ≤ 1000 → (∀ d ∈ ds, nmOk d) → EvD K (tCB (rAll K) (tCons (tLc (iSeq K (tVar 0)) (gName 1) tYes (tCall (spC K (ct_is_name K)) [] (fun _ _ _ => False) (tCons (tVar 1) tNil)) [1]) tNil)) [some w, none] [] (.val (.bl (ds.all isNmD))) [] := fun ds {t w} l hl hds => by
    have hmap : ds.map (part false) = ds.map fun d => W.val d := rfl
    refine (ev_cb (ea1 (evn_map (xs := ds) (g := fun d => W.val d) (f := fun d => D.bl (isNmD d)) (hmap ▸ ei_seq (ev_var rfl) l) (by decide) (by omega) ⟨?_, fun x => ?_⟩ (fun d hd => ev_callP (ea1 (ev_var rfl)) ⟨_, rfl, d, rfl, hds d hd, rfl, rfl⟩)).lst) (rc_all (b := false) (bs := ds.map isNmD) (by rw [List.map_map]; exact .vl))).to ?_
    · exact l.stay
    · exact (l.app (kr := [x])).stay
    · rw [List.all_map]
      rfl
  match d, hd with
  | .non, _ => exact g_ret hR (ev_andV0 ((ev_isi2 (ev_var rfl) (tw_of (T := "NoneType") rfl).x T.kt_NoneType_tuple T.kt_NoneType_list).to rfl)) ⟨rfl, rfl⟩
  | .str s, _ => exact g_ret hR (ev_andV0 ((ev_isi2 (ev_var rfl) (tw_of (T := "str") rfl).x T.kt_str_tuple T.kt_str_list).to rfl)) ⟨rfl, rfl⟩
  | .int s, _ => exact g_ret hR (ev_andV0 ((ev_isi2 (ev_var rfl) (tw_of (T := "int") rfl).x T.kt_int_tuple T.kt_int_list).to rfl)) ⟨rfl, rfl⟩
  | .dic s, _ => exact g_ret hR (ev_andV0 ((ev_isi2 (ev_var rfl) twx_dic T.kt_dict_tuple T.kt_dict_list).to rfl)) ⟨rfl, rfl⟩
  | .tup ds, h => exact g_ret hR (ev_andV1 ((ev_isi2 (ev_var rfl) (tw_of (T := "tuple") rfl).x T.kt_tuple_tuple T.kt_tuple_list).to rfl) (seq ds .vt h.1 h.2)) ⟨rfl, rfl⟩
  | .lst ds, h => exact g_ret hR (ev_andV1 ((ev_isi2 (ev_var rfl) (tw_of (T := "list") rfl).x T.kt_list_tuple T.kt_list_list).to rfl) (seq ds .vl h.1 h.2)) ⟨rfl, rfl⟩
end
def ct_in_order (K : PySem.W.Frag) : Ct := Ct1 fun a ka out => ∃ t b ss, Lk ka a t (stD ss) b ∧ ss.length < 64 ∧ out = Rt (.tup (stD (inOrd ss))) ka
section
variable {P : Program} {w : World} {K : PySem.W.Frag} {mg : Str → Option Value} {base : Heap}
theorem ok_in_order (T : Tx K mg) : Fn P w K mg base 4 (He.ga K "in_order") ["names"] (ct_in_order K) := by
  obtain ⟨fd, F⟩ := T.d_in_order
  refine fn_ok F sc_in_order (fun _ _ _ _ _ _ us hl => match us, hl with | [_], _ => rfl) ct1_len (fun cdv A outer s H E hr => ⟨_, (pss_cons (ps_setDc (i := 2) (tk := (tVar 1)) (tv := (tC (.bl true))) (tt := tYes) (own := [("name", 1)]) rfl sc_in_order.nd rfl rfl rfl (pi_seq (pv 0)) (blk_ok ["names", "name", "known"] (defScope s_in_order) rfl rfl (by decide +kernel)) (fun _ _ _ _ _ => (pg_name (i := 1) sc_in_order.nd rfl (by first | exact Or.inl rfl | exact Or.inr rfl))) (fun _ _ _ _ _ => pts_nil) (fun _ _ _ _ _ => (pv 1)) (fun _ _ _ _ _ => pe_bl))
      (pss_one (ps_ret (pe_callTy call_tupU rfl T.n_tuple (by decide +kernel) (pa_cons (pe_callB cr_sortedS rfl T.n_sorted (by decide +kernel) (pa_cons (pe_lock (pe_lc (te := (tCB rStrS (tCons (tVar 1) tNil))) (tt := tYes) (own := [("name", 1)]) rfl sc_in_order.nd (pi_keys (pv 2)) (blk_ok ["names", "name", "known"] (defScope s_in_order) rfl rfl (by decide +kernel)) (fun _ _ _ _ _ => (pg_name (i := 1) sc_in_order.nd rfl (by first | exact Or.inl rfl | exact Or.inr rfl))) (fun _ _ _ _ _ => pts_nil) (fun _ _ _ _ _ => (pe_callTy call_strS rfl T.n_str (by decide +kernel) (pa_cons (pv 1) pa_nil))))) pa_nil)) pa_nil))))), fun ws ka out B F0 Q hC hR hX => ?_⟩)
  obtain ⟨a, rfl, t, b, ss, l, hz, rfl⟩ := hC
  refine q_asgNR (evr_dc (ei_seq (ev_var rfl) l) (by decide) (by rw [List.length_map, stD_len]; omega) (fun i acc k => k = ka ∧ acc = tabS (dedS (ss.take i))) ⟨rfl, rfl⟩ (fun i acc k h => ⟨h.1 ▸ l.stay, fun x => h.1 ▸ l.app.stay⟩) (fun i w acc k hw ⟨e1, e2⟩ => ?_)) ?_
  · subst e1 e2
    rw [List.getElem?_map] at hw
    cases hs : ss[i]? with
    | none => rw [show (stD ss)[i]? = none by unfold stD; rw [List.getElem?_map, hs]; rfl] at hw; cases hw
    | some s =>
      rw [stD_get hs] at hw
      cases hw
      rw [part_of (sqf_stD b ss) (List.mem_of_getElem? (stD_get hs))]
      refine .inr ⟨_, _, _, .inr s, .bl true, et_yes, ev_var rfl, ev_bl, rfl, ?_⟩
      rw [tabS_put, take_succ_some hs, dedS_snoc]
  · rintro n k1 a1 ⟨acc, rfl, rfl, rfl⟩
    rw [List.length_map, stD_len, List.take_length]
    have hl := dedS_len ss
    refine g_ret hR ((ev_cb (ea1 (evn_srt (b := false) (ss := dedS ss) (evn_lock (j := k1.length) (a := a1) (ds := tabS (dedS ss)) (k1 := k1 ++ [(a1, .dic (tabS (dedS ss)))]) (n := .lst (stD (dedS ss))) (get_last _ _) (get_last _ _) (fun o xs => ?_)).lst .vl (by omega)).lst) (rc_tupL .vl (.inl rfl))).less (List.sublist_append_left _ _)) ⟨rfl, rfl⟩
    rw [set_last]
    have hm := evn_map (K := K) (te := tCB rStrS (tCons (tVar 1) tNil)) (xs := dedS ss) (g := fun s => W.val (.str s)) (f := fun s => D.str s) (j := 1) (vs := [1]) (ro := [some a, none, some (.val (.adr a1))]) (ka := k1 ++ [(a1, .ldic o xs (tabS (dedS ss)))]) (k1 := k1 ++ [(a1, .ldic o xs (tabS (dedS ss)))]) (C := fun k => (a1, Nd.ldic o xs (tabS (dedS ss))) ∈ k) (wi := iKeys (tVar 2)) ?_ (by decide) (by omega) ⟨by simp, fun x => by simp⟩ (fun s hs => ev_strS (ev_var rfl))
    · exact hm
    · have := ei_keys (K := K) (te := tVar 2) (ro := [some a, none, some (.val (.adr a1))]) (ka := k1 ++ [(a1, .ldic o xs (tabS (dedS ss)))]) (k1 := k1 ++ [(a1, .ldic o xs (tabS (dedS ss)))]) (a := a1) (o := o) (xs := xs) (ds := tabS (dedS ss)) (ev_var rfl) (by simp)
      unfold tabS at this ⊢
      rw [List.map_map] at this
      exact this
end
def ckOut (K : PySem.W.Frag) (ds : List D) (ka : Cells) : Oc := match ds, ds.find? (fun d => !isNmD d) with
  | [], _ => X0 (He.ga K "EmptyWalk") ka
  | _ :: _, none => Rt .non ka
  | _ :: _, some d => Xt (He.ga K "BadName") [("name", d)] ka
theorem ck_ok {K : PySem.W.Frag} {ds : List D} {ka : Cells} (h0 : ds ≠ []) (h : ∀ d ∈ ds, isNmD d = true) : ckOut K ds ka = Rt .non ka := by
  unfold ckOut
  rw [find_none (p := fun d => !isNmD d) fun e he => by rw [h e he]; rfl]
  cases ds with
  | nil => exact absurd rfl h0
  | cons d r => rfl
theorem ck_bad {K : PySem.W.Frag} {ds : List D} {d : D} {ka : Cells} (h : ds.find? (fun d => !isNmD d) = some d) : ckOut K ds ka = Xt (He.ga K "BadName") [("name", d)] ka := by
  unfold ckOut
  rw [h]
  cases ds with
  | nil => cases h
  | cons d r => rfl
def ct_check_lanes (K : PySem.W.Frag) : Ct := Ct1 fun a ka out => ∃ t ds b, Lk ka a t ds b ∧ SqF b ds ∧ (∀ d ∈ ds, nmOk d) ∧ out = ckOut K ds ka
section
variable {P : Program} {w : World} {K : PySem.W.Frag} {mg : Str → Option Value} {base : Heap}
theorem ok_check_lanes (T : Tx K mg) (F_is_name : Fn P w K mg base 4 (He.ga K "is_name") ["word"] (ct_is_name K)) (Z_BadName : Xn P w K mg base (He.ga K "BadName") "name") : Fn P w K mg base 6 (He.ga K "check_lanes") ["lanes"] (ct_check_lanes K) := by
  obtain ⟨fd, F⟩ := T.d_check_lanes
  refine fn_ok F sc_check_lanes (fun _ _ _ _ _ _ us hl => match us, hl with | [_], _ => rfl) ct1_len (fun cdv A outer s H E hr => ⟨_, (pss_cons (ps_if (pt_cmpR (op_eqP (by have := (hr).units; exact this)) (pe_callB call_lenU rfl T.n_len (by decide +kernel) (pa_cons (pv 0) pa_nil)) pe_int (nomark _))
      (pss_one (ps_raise rfl (takes_of rfl rfl rfl rfl) (pmk_zero PySem.F.excBase_ValueError T.x0_EmptyWalk.1 T.g_EmptyWalk.1 T.x0_EmptyWalk.2.1 (raises_own T.x0_EmptyWalk.2.2.1 T.x0_EmptyWalk.2.2.2) rfl)))
      pss_nil)
      (pss_one (ps_for (passes_of rfl) rfl (pi_seq (pv 0)) (pg_name (i := 1) sc_check_lanes.nd rfl (by first | exact Or.inl rfl | exact Or.inr rfl)) (pss_one (ps_if (pt_not (pt_val (pe_call (F_is_name.up (by decide)).ok hr rfl T.g_is_name.1 T.g_is_name.2 (F_is_name.up (by decide)).bn .nil (pass_own rfl rfl rfl rfl) (pa_cons (pv 1) pa_nil))))
      (pss_one (ps_raise rfl (takes_of rfl rfl rfl rfl) (pmk_oex Z_BadName.xc.oex Z_BadName.all.1 Z_BadName.all.2.1 Z_BadName.all.2.2.1 (hr.mono (by decide)) Z_BadName.all.2.2.2 .nil passes_no rfl T.g_BadName.1 (pa_cons (pv 1) pa_nil))))
      pss_nil))))), fun ws ka out B F0 Q hC hR hX => ?_⟩)
  obtain ⟨a, rfl, t, ds, b, l, hf, hd, rfl⟩ := hC
  cases ds with
  | nil => exact q_when ((et_test (ev_eqI (ev_len (ev_var rfl) l) ev_int)).to (b := true) rfl) (fun _ => g_raise0 hX ⟨rfl, rfl⟩) (fun z => by cases z)
  | cons d0 ds0 =>
    refine q_when ((et_test (ev_eqI (ev_len (ev_var rfl) l) ev_int)).to (b := false) ?_) (fun z => by cases z) (fun _ => ?_)
    · refine beq_eq_false_iff_ne.mpr fun z => ?_
      rw [List.length_cons] at z
      omega
    generalize hds : d0 :: ds0 = ds at *
    refine g_forn (ei_seq (ev_var rfl) l) (fun i ro2 ka2 => (∃ v, ro2 = [some a, v]) ∧ ka2 = ka ∧ ∀ d ∈ ds.take i, isNmD d = true) ⟨⟨none, rfl⟩, rfl, fun d h => by simp at h⟩ (fun i ro2 ka2 ⟨_, e, _⟩ => e ▸ l.stay) (fun i w2 ro2 ka2 ta' hw ⟨⟨v, e1⟩, e2, e3⟩ => ?_) (fun ro2 ka2 ta' ⟨⟨v, e1⟩, e2, e3⟩ _ => ?_)
    · subst e1 e2
      rw [List.getElem?_map] at hw
      cases hx : ds[i]? with
      | none => rw [hx] at hw; cases hw
      | some d =>
        rw [hx] at hw
        have hm : d ∈ ds := List.mem_of_getElem? hx
        have hw2 : part b d = w2 := by cases hw; rfl
        rw [part_of hf hm] at hw2
        subst hw2
        refine g_if (et_not (et_B (ev_callP (ea1 (ev_var rfl)) ⟨_, rfl, d, rfl, hd d hm, rfl, rfl⟩))) (fun hb => g_raise1 hX (ea1 (ev_var rfl)) Z_BadName.xc.oex Z_BadName.no ?_) (fun hb => g_next (g_jp ⟨⟨_, rfl⟩, rfl, fun e he => ?_⟩))
        · rw [ck_bad (find_first (p := fun d => !isNmD d) (fun e he => by rw [e3 e he]; rfl) hx hb)]
          exact ⟨rfl, rfl⟩
        · rw [take_succ_some hx] at he
          rcases List.mem_append.mp he with he | he
          · exact e3 e he
          · rw [List.mem_singleton.mp he]
            simpa using hb
    · subst e1 e2
      rw [List.length_map, List.take_length] at e3
      refine g_end hR ?_
      rw [ck_ok (by rw [← hds]; simp) e3]
      exact ⟨rfl, rfl⟩
end
def ct_crossed (K : PySem.W.Frag) : Ct := Ct2 fun a b ka out => ∃ xs ys : List Nat, a = .val (.lst (nmD xs)) ∧ b = .val (.lst (nmD ys)) ∧ xs.length * ys.length < 100000 ∧ ka = [] ∧ out = Rt (.lst ((crN xs ys).map prD)) []
section
variable {P : Program} {w : World} {K : PySem.W.Frag} {mg : Str → Option Value} {base : Heap}
theorem ok_crossed (T : Tx K mg) : Fn P w K mg base 4 (He.ga K "crossed") ["one", "two"] (ct_crossed K) := by
  obtain ⟨fd, F⟩ := T.d_crossed
  refine fn_ok F sc_crossed (fun _ _ _ _ _ _ us hl => match us, hl with | [_, _], _ => rfl) ct2_len (fun cdv A outer s H E hr => ⟨_, (pss_one (ps_ret (pe_lc2 (own := [("first", 2), ("second", 3)]) (vs1 := [3]) (tt := tYes) (wi1 := (iSeq K (tVar 1))) (tt1 := tYes) (te := (tTup (tCons (tVar 2) (tCons (tVar 3) tNil)))) rfl sc_crossed.nd (pi_seq (pv 0)) (blk_ok ["one", "two", "first", "second"] (defScope s_crossed) rfl rfl (by decide +kernel)) (by decide) (fun _ _ _ _ _ => (pg_name (i := 2) sc_crossed.nd rfl (by first | exact Or.inl rfl | exact Or.inr rfl))) (fun _ _ _ _ _ => pts_nil) (fun _ _ _ _ _ => (pi_seq (pv 1))) (fun _ _ _ _ _ => (pg_name (i := 3) sc_crossed.nd rfl (by first | exact Or.inl rfl | exact Or.inr rfl))) (fun _ _ _ _ _ => pts_nil) (fun _ _ _ _ _ => (pe_tup (pa_cons (pv 2) (pa_cons (pv 3) pa_nil))))))), fun ws ka out B F0 Q hC hR hX => ?_⟩)
  obtain ⟨a, b, rfl, xs, ys, rfl, rfl, hz, rfl, rfl⟩ := hC
  refine g_ret hR ((evn_lc2 (xs := xs) (ys := ys) (f := fun n : Nat => .val (.int (n : Int))) (f2 := fun n : Nat => .val (.int (n : Int))) (d := fun x y => prD (x, y)) (ei_map (ts := xs) (f := fun n : Nat => D.int (n : Int)) (ev_var rfl)) (by decide) hz (fun x k => ei_map (ts := ys) (f := fun n : Nat => D.int (n : Int)) (ev_var rfl)) (fun x y k => ev_tup (ds := [.int (x : Int), .int (y : Int)]) (ea2 (ev_var rfl) (ev_var rfl)) (Nat.le_of_ble_eq_true rfl))).lst.to ?_) ⟨rfl, rfl⟩
  unfold crN
  rw [List.map_flatMap]
  congr 3
  funext x
  rw [List.map_map]
  rfl
end
def ct_read_tree (d : Nat) (K : PySem.W.Frag) : Ct := Ct2 fun a b ka out => ∃ (t : Tr) (s : Nat), a = .val (t.d false) ∧ b = .val (.int (s : Int)) ∧ t.dep < d ∧ t.sm ∧ ka = [] ∧ out = Rt (rdT (mcT t s)) []
theorem ct_read_tree_zero (K : PySem.W.Frag) : ∀ ws ka out, ¬ ct_read_tree 0 K ws ka out := fun ws ka out ⟨_, _, _, t, s, _, _, hd, _⟩ => absurd hd (Nat.not_lt_zero _)
section
variable {P : Program} {w : World} {K : PySem.W.Frag} {mg : Str → Option Value} {base : Heap}
theorem ok_read_tree (T : Tx K mg) (F_crossed : Fn P w K mg base 4 (He.ga K "crossed") ["one", "two"] (ct_crossed K)) : ∀ d : Nat, Fn P w K mg base (2 * d + 6) (He.ga K "read_tree") ["tree", "start"] (ct_read_tree d K) := by
  obtain ⟨fd, F⟩ := T.d_read_tree
  intro d
  induction d with
  | zero => exact fn_vac F sc_read_tree (fun _ _ _ _ _ _ us hl => match us, hl with | [_, _], _ => rfl) (ct_read_tree_zero K)
  | succ d F_read_tree => ?_
  refine fn_ok F sc_read_tree (fun _ _ _ _ _ _ us hl => match us, hl with | [_, _], _ => rfl) ct2_len (fun cdv A outer s H E hr => ⟨_, (pss_cons (ps_if (PW.pt (pw_or (pt_cmpR (op_eqP (by have := (hr).units; exact this)) (pe_ix ix_seq (pv 0) pe_int fun _ _ => rfl) pe_str (nomark _)) (pw_or1 (pt_cmpR (op_eqP (by have := (hr).units; exact this)) (pe_ix ix_seq (pv 0) pe_int fun _ _ => rfl) pe_str (nomark _)))))
      (pss_one (ps_ret (pe_tup (pa_cons (pe_lst (pa_cons (pe_tup (pa_cons (pe_cmpR (op_eqP (by have := (hr).units; exact this)) (pe_ix ix_seq (pv 0) pe_int fun _ _ => rfl) pe_str (nomark _)) (pa_cons (pe_ix ix_seq (pv 0) pe_int fun _ _ => rfl) pa_nil))) pa_nil)) (pa_cons (pe_lst (pa_cons (pv 1) pa_nil)) (pa_cons (pe_lst (pa_cons (pv 1) pa_nil)) (pa_cons (pe_lst pa_nil) (pa_cons pe_bl pa_nil))))))))
      pss_nil)
      (pss_cons (ps_set (i := 2) sc_read_tree.nd rfl (by first | exact Or.inl rfl | exact Or.inr rfl) (pe_call (F_read_tree.up (by omega)).ok hr rfl T.g_read_tree.1 T.g_read_tree.2 (F_read_tree.up (by omega)).bn .nil (pass_own rfl rfl rfl rfl) (pa_cons (pe_ix ix_seq (pv 0) pe_int fun _ _ => rfl) (pa_cons (pv 1) pa_nil))))
      (pss_cons (ps_if (pt_cmpR (op_eqP (by have := (hr).units; exact this)) (pe_ix ix_seq (pv 0) pe_int fun _ _ => rfl) pe_str (nomark _))
      (pss_one (ps_ret (pe_tup (pa_cons (pe_ix ix_seq (pv 2) pe_int fun _ _ => rfl) (pa_cons (pe_ix ix_seq (pv 2) pe_int fun _ _ => rfl) (pa_cons (pe_ix ix_seq (pv 2) pe_int fun _ _ => rfl) (pa_cons (pe_op op_addU (pe_ix ix_seq (pv 2) pe_int fun _ _ => rfl) (pe_call (F_crossed.up (by omega)).ok hr rfl T.g_crossed.1 T.g_crossed.2 (F_crossed.up (by omega)).bn .nil (pass_own rfl rfl rfl rfl) (pa_cons (pe_ix ix_seq (pv 2) pe_int fun _ _ => rfl) (pa_cons (pe_ix ix_seq (pv 2) pe_int fun _ _ => rfl) pa_nil)))) (pa_cons pe_bl pa_nil))))))))
      pss_nil)
      (pss_cons (ps_if (pt_cmpR (op_eqP (by have := (hr).units; exact this)) (pe_ix ix_seq (pv 0) pe_int fun _ _ => rfl) pe_str (nomark _))
      (pss_one (ps_ret (pe_tup (pa_cons (pe_ix ix_seq (pv 2) pe_int fun _ _ => rfl) (pa_cons (pe_ix ix_seq (pv 2) pe_int fun _ _ => rfl) (pa_cons (pe_ix ix_seq (pv 2) pe_int fun _ _ => rfl) (pa_cons (pe_ix ix_seq (pv 2) pe_int fun _ _ => rfl) (pa_cons pe_bl pa_nil))))))))
      pss_nil)
      (pss_cons (ps_set (i := 3) sc_read_tree.nd rfl (by first | exact Or.inl rfl | exact Or.inr rfl) (pe_call (F_read_tree.up (by omega)).ok hr rfl T.g_read_tree.1 T.g_read_tree.2 (F_read_tree.up (by omega)).bn .nil (pass_own rfl rfl rfl rfl) (pa_cons (pe_ix ix_seq (pv 0) pe_int fun _ _ => rfl) (pa_cons (pe_op op_addU (pv 1) (pe_callB call_lenU rfl T.n_len (by decide +kernel) (pa_cons (pe_ix ix_seq (pv 2) pe_int fun _ _ => rfl) pa_nil))) pa_nil))))
      (pss_cons (ps_if (pt_cmpR (op_eqP (by have := (hr).units; exact this)) (pe_ix ix_seq (pv 0) pe_int fun _ _ => rfl) pe_str (nomark _))
      (pss_one (ps_ret (pe_tup (pa_cons (pe_op op_addU (pe_ix ix_seq (pv 2) pe_int fun _ _ => rfl) (pe_ix ix_seq (pv 3) pe_int fun _ _ => rfl)) (pa_cons (pe_op op_addU (pe_ix ix_seq (pv 2) pe_int fun _ _ => rfl) (pe_ix ix_seq (pv 3) pe_int fun _ _ => rfl)) (pa_cons (pe_op op_addU (pe_ix ix_seq (pv 2) pe_int fun _ _ => rfl) (pe_ix ix_seq (pv 3) pe_int fun _ _ => rfl)) (pa_cons (pe_op op_addU (pe_ix ix_seq (pv 2) pe_int fun _ _ => rfl) (pe_ix ix_seq (pv 3) pe_int fun _ _ => rfl)) (pa_cons (pe_or (pe_ix ix_seq (pv 2) pe_int fun _ _ => rfl) (pe_one (pe_ix ix_seq (pv 3) pe_int fun _ _ => rfl))) pa_nil))))))))
      pss_nil)
      (pss_cons (ps_set (i := 4) sc_read_tree.nd rfl (by first | exact Or.inl rfl | exact Or.inr rfl) (pe_ifExp (pt_val (pe_ix ix_seq (pv 2) pe_int fun _ _ => rfl)) (pe_op op_addU (pe_ix ix_seq (pv 2) pe_int fun _ _ => rfl) (pe_ix ix_seq (pv 3) pe_int fun _ _ => rfl)) (pe_ix ix_seq (pv 2) pe_int fun _ _ => rfl)))
      (pss_cons (ps_set (i := 5) sc_read_tree.nd rfl (by first | exact Or.inl rfl | exact Or.inr rfl) (pe_ifExp (pt_val (pe_ix ix_seq (pv 3) pe_int fun _ _ => rfl)) (pe_op op_addU (pe_ix ix_seq (pv 2) pe_int fun _ _ => rfl) (pe_ix ix_seq (pv 3) pe_int fun _ _ => rfl)) (pe_ix ix_seq (pv 3) pe_int fun _ _ => rfl)))
      (pss_one (ps_ret (pe_tup (pa_cons (pe_op op_addU (pe_ix ix_seq (pv 2) pe_int fun _ _ => rfl) (pe_ix ix_seq (pv 3) pe_int fun _ _ => rfl)) (pa_cons (pv 4) (pa_cons (pv 5) (pa_cons (pe_op op_addU (pe_op op_addU (pe_ix ix_seq (pv 2) pe_int fun _ _ => rfl) (pe_ix ix_seq (pv 3) pe_int fun _ _ => rfl)) (pe_call (F_crossed.up (by omega)).ok hr rfl T.g_crossed.1 T.g_crossed.2 (F_crossed.up (by omega)).bn .nil (pass_own rfl rfl rfl rfl) (pa_cons (pe_ix ix_seq (pv 2) pe_int fun _ _ => rfl) (pa_cons (pe_ix ix_seq (pv 3) pe_int fun _ _ => rfl) pa_nil)))) (pa_cons (pe_and (pe_ix ix_seq (pv 2) pe_int fun _ _ => rfl) (pe_one (pe_ix ix_seq (pv 3) pe_int fun _ _ => rfl))) pa_nil)))))))))))))))), fun ws ka out B F0 Q hC hR hX => ?_⟩)
  obtain ⟨a, b, rfl, t, s, rfl, rfl, hd, hs, rfl, rfl⟩ := hC
  cases t with
  | «at» k ns =>
    refine q_when (b := true) ((et_or (et_test (ev_eqS (ev_ixV (ev_var rfl) ev_int .vt at0) ev_str)) (fun _ => et_test (ev_eqS (ev_ixV (ev_var rfl) ev_int .vt at0) ev_str))).to (by cases k <;> rfl)) (fun _ => ?_) (fun z => by cases z)
    refine g_ret hR (ev_tup (ds := [.lst [atD (k, ns)], .lst (nmD [s]), .lst (nmD [s]), .lst [], .bl false]) (ea_cons (evn_lst (ds := [atD (k, ns)]) (ea1 (ev_tup (ds := [.bl k, .tup (stD ns)]) (ea2 ((ev_eqS (ev_ixV (ev_var rfl) ev_int .vt at0) ev_str).to (by cases k <;> rfl)) (ev_ixV (ev_var rfl) ev_int .vt (atI_nat (j := 1) rfl))) (Nat.le_of_ble_eq_true rfl))) (Nat.le_of_ble_eq_true rfl)).lst (ea_cons (evn_lst (ds := nmD [s]) (ea1 (ev_var rfl)) (Nat.le_of_ble_eq_true rfl)).lst (ea_cons (evn_lst (ds := nmD [s]) (ea1 (ev_var rfl)) (Nat.le_of_ble_eq_true rfl)).lst (ea_cons (evn_lst (ds := []) ea_nil (Nat.le_of_ble_eq_true rfl)).lst (ea1 ev_bl))))) (Nat.le_of_ble_eq_true rfl)) ⟨rfl, rfl⟩
  | rep a =>
    have f := hs.2 s
    have fa := hs.1.fits s
    have hda : a.dep < d := by have : a.dep + 1 < d + 1 := hd; omega
    refine q_when (b := false) ((et_or (et_test (ev_eqS (ev_ixV (ev_var rfl) ev_int .vt at0) ev_str)) (fun _ => et_test (ev_eqS (ev_ixV (ev_var rfl) ev_int .vt at0) ev_str))).to rfl) (fun z => by cases z) (fun _ => ?_)
    refine q_asg (w := .val (rdT (mcT a s))) (ev_callP (ea2 (ev_ixV (ev_var rfl) ev_int .vt (atI_nat (j := 1) rfl)) (ev_var rfl)) ⟨_, _, rfl, a, s, rfl, rfl, hda, hs.1, rfl, rfl⟩) ?_
    refine q_when (b := true) ((et_test (ev_eqS (ev_ixV (ev_var rfl) ev_int .vt at0) ev_str)).to rfl) (fun _ => ?_) (fun z => by cases z)
    have fp := f.p
    have hm : (mcT (.rep a) s).pr = (mcT a s).pr ++ crN (mcT a s).la (mcT a s).fi := rfl
    rw [hm, List.length_append] at fp
    have i1 : atI [D.lst ((mcT a s).at_.map atD), .lst (nmD (mcT a s).fi), .lst (nmD (mcT a s).la), .lst ((mcT a s).pr.map prD), .bl (mcT a s).op] 1 = some (.lst (nmD (mcT a s).fi)) := atI_nat (j := 1) rfl
    have i2 : atI [D.lst ((mcT a s).at_.map atD), .lst (nmD (mcT a s).fi), .lst (nmD (mcT a s).la), .lst ((mcT a s).pr.map prD), .bl (mcT a s).op] 2 = some (.lst (nmD (mcT a s).la)) := atI_nat (j := 2) rfl
    have i3 : atI [D.lst ((mcT a s).at_.map atD), .lst (nmD (mcT a s).fi), .lst (nmD (mcT a s).la), .lst ((mcT a s).pr.map prD), .bl (mcT a s).op] 3 = some (.lst ((mcT a s).pr.map prD)) := atI_nat (j := 3) rfl
    refine g_ret hR ((ev_tup (ds := [.lst ((mcT a s).at_.map atD), .lst (nmD (mcT a s).fi), .lst (nmD (mcT a s).la), .lst ((mcT a s).pr.map prD ++ (crN (mcT a s).la (mcT a s).fi).map prD), .bl true]) (ea_cons (ev_ixV (ev_var rfl) ev_int .vt at0) (ea_cons (ev_ixV (ev_var rfl) ev_int .vt i1) (ea_cons (ev_ixV (ev_var rfl) ev_int .vt i2) (ea_cons (ev_catL (ev_ixV (ev_var rfl) ev_int .vt i3) (ev_callP (ea2 (ev_ixV (ev_var rfl) ev_int .vt i2) (ev_ixV (ev_var rfl) ev_int .vt i1)) ⟨_, _, rfl, _, _, rfl, rfl, ?h1, rfl, rfl⟩) ?h2) (ea1 ev_bl))))) (Nat.le_of_ble_eq_true rfl)).to ?h3) ⟨rfl, rfl⟩
    case h1 =>
      rw [crN_len] at fp
      omega
    case h2 =>
      rw [List.length_map, List.length_map]
      omega
    case h3 =>
      rw [← List.map_append]
      rfl
  | opt a =>
    have hda : a.dep < d := by have : a.dep + 1 < d + 1 := hd; omega
    refine q_when (b := false) ((et_or (et_test (ev_eqS (ev_ixV (ev_var rfl) ev_int .vt at0) ev_str)) (fun _ => et_test (ev_eqS (ev_ixV (ev_var rfl) ev_int .vt at0) ev_str))).to rfl) (fun z => by cases z) (fun _ => ?_)
    refine q_asg (w := .val (rdT (mcT a s))) (ev_callP (ea2 (ev_ixV (ev_var rfl) ev_int .vt (atI_nat (j := 1) rfl)) (ev_var rfl)) ⟨_, _, rfl, a, s, rfl, rfl, hda, hs.1, rfl, rfl⟩) ?_
    refine q_when (b := false) ((et_test (ev_eqS (ev_ixV (ev_var rfl) ev_int .vt at0) ev_str)).to rfl) (fun z => by cases z) (fun _ => ?_)
    refine q_when (b := true) ((et_test (ev_eqS (ev_ixV (ev_var rfl) ev_int .vt at0) ev_str)).to rfl) (fun _ => ?_) (fun z => by cases z)
    have i0 : atI [D.lst ((mcT a s).at_.map atD), .lst (nmD (mcT a s).fi), .lst (nmD (mcT a s).la), .lst ((mcT a s).pr.map prD), .bl (mcT a s).op] 0 = some (.lst ((mcT a s).at_.map atD)) := atI_nat (j := 0) rfl
    have i1 : atI [D.lst ((mcT a s).at_.map atD), .lst (nmD (mcT a s).fi), .lst (nmD (mcT a s).la), .lst ((mcT a s).pr.map prD), .bl (mcT a s).op] 1 = some (.lst (nmD (mcT a s).fi)) := atI_nat (j := 1) rfl
    have i2 : atI [D.lst ((mcT a s).at_.map atD), .lst (nmD (mcT a s).fi), .lst (nmD (mcT a s).la), .lst ((mcT a s).pr.map prD), .bl (mcT a s).op] 2 = some (.lst (nmD (mcT a s).la)) := atI_nat (j := 2) rfl
    have i3 : atI [D.lst ((mcT a s).at_.map atD), .lst (nmD (mcT a s).fi), .lst (nmD (mcT a s).la), .lst ((mcT a s).pr.map prD), .bl (mcT a s).op] 3 = some (.lst ((mcT a s).pr.map prD)) := atI_nat (j := 3) rfl
    have i4 : atI [D.lst ((mcT a s).at_.map atD), .lst (nmD (mcT a s).fi), .lst (nmD (mcT a s).la), .lst ((mcT a s).pr.map prD), .bl (mcT a s).op] 4 = some (.bl (mcT a s).op) := atI_nat (j := 4) rfl
    exact g_ret hR (ev_tup (ds := [.lst ((mcT a s).at_.map atD), .lst (nmD (mcT a s).fi), .lst (nmD (mcT a s).la), .lst ((mcT a s).pr.map prD), .bl true]) (ea_cons (ev_ixV (ev_var rfl) ev_int .vt i0) (ea_cons (ev_ixV (ev_var rfl) ev_int .vt i1) (ea_cons (ev_ixV (ev_var rfl) ev_int .vt i2) (ea_cons (ev_ixV (ev_var rfl) ev_int .vt i3) (ea1 ev_bl))))) (Nat.le_of_ble_eq_true rfl)) ⟨rfl, rfl⟩
  | either a b =>
    have hda : a.dep < d := by have : max a.dep b.dep + 1 < d + 1 := hd; omega
    have hdb : b.dep < d := by have : max a.dep b.dep + 1 < d + 1 := hd; omega
    have f := hs.2.2 s
    have fa := hs.1.fits s
    have fb := hs.2.1.fits (s + (mcT a s).at_.length)
    refine q_when (b := false) ((et_or (et_test (ev_eqS (ev_ixV (ev_var rfl) ev_int .vt at0) ev_str)) (fun _ => et_test (ev_eqS (ev_ixV (ev_var rfl) ev_int .vt at0) ev_str))).to rfl) (fun z => by cases z) (fun _ => ?_)
    refine q_asg (w := .val (rdT (mcT a s))) (ev_callP (ea2 (ev_ixV (ev_var rfl) ev_int .vt (atI_nat (j := 1) rfl)) (ev_var rfl)) ⟨_, _, rfl, a, s, rfl, rfl, hda, hs.1, rfl, rfl⟩) ?_
    refine q_when (b := false) ((et_test (ev_eqS (ev_ixV (ev_var rfl) ev_int .vt at0) ev_str)).to rfl) (fun z => by cases z) (fun _ => ?_)
    refine q_when (b := false) ((et_test (ev_eqS (ev_ixV (ev_var rfl) ev_int .vt at0) ev_str)).to rfl) (fun z => by cases z) (fun _ => ?_)
    have i0 : atI [D.lst ((mcT a s).at_.map atD), .lst (nmD (mcT a s).fi), .lst (nmD (mcT a s).la), .lst ((mcT a s).pr.map prD), .bl (mcT a s).op] 0 = some (.lst ((mcT a s).at_.map atD)) := atI_nat (j := 0) rfl
    have i1 : atI [D.lst ((mcT a s).at_.map atD), .lst (nmD (mcT a s).fi), .lst (nmD (mcT a s).la), .lst ((mcT a s).pr.map prD), .bl (mcT a s).op] 1 = some (.lst (nmD (mcT a s).fi)) := atI_nat (j := 1) rfl
    have i2 : atI [D.lst ((mcT a s).at_.map atD), .lst (nmD (mcT a s).fi), .lst (nmD (mcT a s).la), .lst ((mcT a s).pr.map prD), .bl (mcT a s).op] 2 = some (.lst (nmD (mcT a s).la)) := atI_nat (j := 2) rfl
    have i3 : atI [D.lst ((mcT a s).at_.map atD), .lst (nmD (mcT a s).fi), .lst (nmD (mcT a s).la), .lst ((mcT a s).pr.map prD), .bl (mcT a s).op] 3 = some (.lst ((mcT a s).pr.map prD)) := atI_nat (j := 3) rfl
    have i4 : atI [D.lst ((mcT a s).at_.map atD), .lst (nmD (mcT a s).fi), .lst (nmD (mcT a s).la), .lst ((mcT a s).pr.map prD), .bl (mcT a s).op] 4 = some (.bl (mcT a s).op) := atI_nat (j := 4) rfl
    refine q_asg (w := .val (rdT (mcT b (s + (mcT a s).at_.length)))) (ev_callP (ea2 (ev_ixV (ev_var rfl) ev_int .vt (atI_nat (j := 2) rfl)) ((ev_addI (ev_var rfl) (ev_len (ev_ixV (ev_var rfl) ev_int .vt i0) .vl)).to (w' := .val (.int ((s + (mcT a s).at_.length : Nat) : Int))) (by rw [List.length_map, Int.natCast_add]))) ⟨_, _, rfl, b, s + (mcT a s).at_.length, rfl, rfl, hdb, hs.2.1, rfl, rfl⟩) ?_
    generalize hm : mcT a s = m at *
    generalize hn : mcT b (s + m.at_.length) = n at *
    have k0 : atI [D.lst (n.at_.map atD), .lst (nmD n.fi), .lst (nmD n.la), .lst (n.pr.map prD), .bl n.op] 0 = some (.lst (n.at_.map atD)) := atI_nat (j := 0) rfl
    have k1 : atI [D.lst (n.at_.map atD), .lst (nmD n.fi), .lst (nmD n.la), .lst (n.pr.map prD), .bl n.op] 1 = some (.lst (nmD n.fi)) := atI_nat (j := 1) rfl
    have k2 : atI [D.lst (n.at_.map atD), .lst (nmD n.fi), .lst (nmD n.la), .lst (n.pr.map prD), .bl n.op] 2 = some (.lst (nmD n.la)) := atI_nat (j := 2) rfl
    have k3 : atI [D.lst (n.at_.map atD), .lst (nmD n.fi), .lst (nmD n.la), .lst (n.pr.map prD), .bl n.op] 3 = some (.lst (n.pr.map prD)) := atI_nat (j := 3) rfl
    have k4 : atI [D.lst (n.at_.map atD), .lst (nmD n.fi), .lst (nmD n.la), .lst (n.pr.map prD), .bl n.op] 4 = some (.bl n.op) := atI_nat (j := 4) rfl
    refine q_when (b := true) ((et_test (ev_eqS (ev_ixV (ev_var rfl) ev_int .vt at0) ev_str)).to rfl) (fun _ => ?_) (fun z => by cases z)
    have fp := f.p
    have e : mcT (.either a b) s = ⟨m.at_ ++ n.at_, m.fi ++ n.fi, m.la ++ n.la, m.pr ++ n.pr, m.op || n.op⟩ := by subst hm hn; rfl
    rw [e] at fp hR
    have fp : (m.pr ++ n.pr).length ≤ 90000 := fp
    rw [List.length_append] at fp
    have z : ∀ xs ys : List Nat, xs.length ≤ 300 → ys.length ≤ 300 → (nmD xs).length + (nmD ys).length ≤ 100000 := fun xs ys h1 h2 => by
      unfold nmD
      rw [List.length_map, List.length_map]
      omega
    refine g_ret hR ((ev_tup (ds := [.lst (m.at_.map atD ++ n.at_.map atD), .lst (nmD m.fi ++ nmD n.fi), .lst (nmD m.la ++ nmD n.la), .lst (m.pr.map prD ++ n.pr.map prD), .bl (m.op || n.op)]) (ea_cons (ev_catL (ev_ixV (ev_var rfl) ev_int .vt i0) (ev_ixV (ev_var rfl) ev_int .vt k0) ?h1) (ea_cons (ev_catL (ev_ixV (ev_var rfl) ev_int .vt i1) (ev_ixV (ev_var rfl) ev_int .vt k1) (z _ _ fa.f fb.f)) (ea_cons (ev_catL (ev_ixV (ev_var rfl) ev_int .vt i2) (ev_ixV (ev_var rfl) ev_int .vt k2) (z _ _ fa.l fb.l)) (ea_cons (ev_catL (ev_ixV (ev_var rfl) ev_int .vt i3) (ev_ixV (ev_var rfl) ev_int .vt k3) ?h2) (ea1 (ev_orV (ev_ixV (ev_var rfl) ev_int .vt i4) (fun _ => (ev_ixV (ev_var rfl) ev_int .vt k4)))))))) (Nat.le_of_ble_eq_true rfl)).to ?h3) ⟨rfl, rfl⟩
    case h1 =>
      have h1 := fa.a
      have h2 := fb.a
      rw [List.length_map, List.length_map]
      omega
    case h2 =>
      rw [List.length_map, List.length_map]
      omega
    case h3 =>
      unfold nmD
      rw [← List.map_append, ← List.map_append, ← List.map_append, ← List.map_append]
      rfl
  | join a b =>
    have hda : a.dep < d := by have : max a.dep b.dep + 1 < d + 1 := hd; omega
    have hdb : b.dep < d := by have : max a.dep b.dep + 1 < d + 1 := hd; omega
    have f := hs.2.2 s
    have fa := hs.1.fits s
    have fb := hs.2.1.fits (s + (mcT a s).at_.length)
    refine q_when (b := false) ((et_or (et_test (ev_eqS (ev_ixV (ev_var rfl) ev_int .vt at0) ev_str)) (fun _ => et_test (ev_eqS (ev_ixV (ev_var rfl) ev_int .vt at0) ev_str))).to rfl) (fun z => by cases z) (fun _ => ?_)
    refine q_asg (w := .val (rdT (mcT a s))) (ev_callP (ea2 (ev_ixV (ev_var rfl) ev_int .vt (atI_nat (j := 1) rfl)) (ev_var rfl)) ⟨_, _, rfl, a, s, rfl, rfl, hda, hs.1, rfl, rfl⟩) ?_
    refine q_when (b := false) ((et_test (ev_eqS (ev_ixV (ev_var rfl) ev_int .vt at0) ev_str)).to rfl) (fun z => by cases z) (fun _ => ?_)
    refine q_when (b := false) ((et_test (ev_eqS (ev_ixV (ev_var rfl) ev_int .vt at0) ev_str)).to rfl) (fun z => by cases z) (fun _ => ?_)
    have i0 : atI [D.lst ((mcT a s).at_.map atD), .lst (nmD (mcT a s).fi), .lst (nmD (mcT a s).la), .lst ((mcT a s).pr.map prD), .bl (mcT a s).op] 0 = some (.lst ((mcT a s).at_.map atD)) := atI_nat (j := 0) rfl
    have i1 : atI [D.lst ((mcT a s).at_.map atD), .lst (nmD (mcT a s).fi), .lst (nmD (mcT a s).la), .lst ((mcT a s).pr.map prD), .bl (mcT a s).op] 1 = some (.lst (nmD (mcT a s).fi)) := atI_nat (j := 1) rfl
    have i2 : atI [D.lst ((mcT a s).at_.map atD), .lst (nmD (mcT a s).fi), .lst (nmD (mcT a s).la), .lst ((mcT a s).pr.map prD), .bl (mcT a s).op] 2 = some (.lst (nmD (mcT a s).la)) := atI_nat (j := 2) rfl
    have i3 : atI [D.lst ((mcT a s).at_.map atD), .lst (nmD (mcT a s).fi), .lst (nmD (mcT a s).la), .lst ((mcT a s).pr.map prD), .bl (mcT a s).op] 3 = some (.lst ((mcT a s).pr.map prD)) := atI_nat (j := 3) rfl
    have i4 : atI [D.lst ((mcT a s).at_.map atD), .lst (nmD (mcT a s).fi), .lst (nmD (mcT a s).la), .lst ((mcT a s).pr.map prD), .bl (mcT a s).op] 4 = some (.bl (mcT a s).op) := atI_nat (j := 4) rfl
    refine q_asg (w := .val (rdT (mcT b (s + (mcT a s).at_.length)))) (ev_callP (ea2 (ev_ixV (ev_var rfl) ev_int .vt (atI_nat (j := 2) rfl)) ((ev_addI (ev_var rfl) (ev_len (ev_ixV (ev_var rfl) ev_int .vt i0) .vl)).to (w' := .val (.int ((s + (mcT a s).at_.length : Nat) : Int))) (by rw [List.length_map, Int.natCast_add]))) ⟨_, _, rfl, b, s + (mcT a s).at_.length, rfl, rfl, hdb, hs.2.1, rfl, rfl⟩) ?_
    generalize hm : mcT a s = m at *
    generalize hn : mcT b (s + m.at_.length) = n at *
    have k0 : atI [D.lst (n.at_.map atD), .lst (nmD n.fi), .lst (nmD n.la), .lst (n.pr.map prD), .bl n.op] 0 = some (.lst (n.at_.map atD)) := atI_nat (j := 0) rfl
    have k1 : atI [D.lst (n.at_.map atD), .lst (nmD n.fi), .lst (nmD n.la), .lst (n.pr.map prD), .bl n.op] 1 = some (.lst (nmD n.fi)) := atI_nat (j := 1) rfl
    have k2 : atI [D.lst (n.at_.map atD), .lst (nmD n.fi), .lst (nmD n.la), .lst (n.pr.map prD), .bl n.op] 2 = some (.lst (nmD n.la)) := atI_nat (j := 2) rfl
    have k3 : atI [D.lst (n.at_.map atD), .lst (nmD n.fi), .lst (nmD n.la), .lst (n.pr.map prD), .bl n.op] 3 = some (.lst (n.pr.map prD)) := atI_nat (j := 3) rfl
    have k4 : atI [D.lst (n.at_.map atD), .lst (nmD n.fi), .lst (nmD n.la), .lst (n.pr.map prD), .bl n.op] 4 = some (.bl n.op) := atI_nat (j := 4) rfl
    refine q_when (b := false) ((et_test (ev_eqS (ev_ixV (ev_var rfl) ev_int .vt at0) ev_str)).to rfl) (fun z => by cases z) (fun _ => ?_)
    have fp := f.p
    have e : mcT (.join a b) s = ⟨m.at_ ++ n.at_, if m.op then m.fi ++ n.fi else m.fi, if n.op then m.la ++ n.la else n.la, m.pr ++ n.pr ++ crN m.la n.fi, m.op && n.op⟩ := by subst hm hn; rfl
    rw [e] at fp hR
    have fp : (m.pr ++ n.pr ++ crN m.la n.fi).length ≤ 90000 := fp
    rw [List.length_append, List.length_append] at fp
    have fc := crN_len m.la n.fi
    have z : ∀ xs ys : List Nat, xs.length ≤ 300 → ys.length ≤ 300 → (nmD xs).length + (nmD ys).length ≤ 100000 := fun xs ys h1 h2 => by
      unfold nmD
      rw [List.length_map, List.length_map]
      omega
    have nap : ∀ xs ys : List Nat, nmD xs ++ nmD ys = nmD (xs ++ ys) := fun xs ys => List.map_append.symm
    refine q_asg (w := .val (.lst (nmD (if m.op then m.fi ++ n.fi else m.fi)))) (ev_if (b := m.op) (et_B (ev_ixV (ev_var rfl) ev_int .vt i4)) (fun o => (ev_catL (ev_ixV (ev_var rfl) ev_int .vt i1) (ev_ixV (ev_var rfl) ev_int .vt k1) (z _ _ fa.f fb.f)).to (by rw [if_pos o, nap])) (fun o => EvD.to (ev_ixV (ev_var rfl) ev_int .vt i1) (by rw [if_neg (by rw [o]; decide)]))) ?_
    refine q_asg (w := .val (.lst (nmD (if n.op then m.la ++ n.la else n.la)))) (ev_if (b := n.op) (et_B (ev_ixV (ev_var rfl) ev_int .vt k4)) (fun o => (ev_catL (ev_ixV (ev_var rfl) ev_int .vt i2) (ev_ixV (ev_var rfl) ev_int .vt k2) (z _ _ fa.l fb.l)).to (by rw [if_pos o, nap])) (fun o => EvD.to (ev_ixV (ev_var rfl) ev_int .vt k2) (by rw [if_neg (by rw [o]; decide)]))) ?_
    refine g_ret hR ((ev_tup (ds := [.lst (m.at_.map atD ++ n.at_.map atD), .lst (nmD (if m.op then m.fi ++ n.fi else m.fi)), .lst (nmD (if n.op then m.la ++ n.la else n.la)), .lst (m.pr.map prD ++ n.pr.map prD ++ (crN m.la n.fi).map prD), .bl (m.op && n.op)]) (ea_cons (ev_catL (ev_ixV (ev_var rfl) ev_int .vt i0) (ev_ixV (ev_var rfl) ev_int .vt k0) ?h1) (ea_cons (ev_var rfl) (ea_cons (ev_var rfl) (ea_cons (ev_catL (ev_catL (ev_ixV (ev_var rfl) ev_int .vt i3) (ev_ixV (ev_var rfl) ev_int .vt k3) ?h2) (ev_callP (ea2 (ev_ixV (ev_var rfl) ev_int .vt i2) (ev_ixV (ev_var rfl) ev_int .vt k1)) ⟨_, _, rfl, _, _, rfl, rfl, ?h4, rfl, rfl⟩) ?h5) (ea1 (ev_andV (ev_ixV (ev_var rfl) ev_int .vt i4) (fun _ => (ev_ixV (ev_var rfl) ev_int .vt k4)))))))) (Nat.le_of_ble_eq_true rfl)).to ?h3) ⟨rfl, rfl⟩
    case h1 =>
      have h1 := fa.a
      have h2 := fb.a
      rw [List.length_map, List.length_map]
      omega
    case h2 =>
      rw [List.length_map, List.length_map]
      omega
    case h3 =>
      rw [← List.map_append, ← List.map_append, ← List.map_append]
      rfl
    case h4 =>
      omega
    case h5 =>
      rw [List.length_append, List.length_map, List.length_map, List.length_map]
      omega
end
/-- a machine -/
abbrev McD (K : PySem.W.Frag) (m : Mc) : D := .ins (He.ga K "Machine") [("atoms", .lst (m.at_.map atD)), ("firsts", .lst (nmD m.fi)), ("lasts", .lst (nmD m.la)), ("pairs", .dit (prsD m.pr)), ("is_optional", .bl m.op)]
def ct_Machine___init (K : PySem.W.Frag) : Ct := Ct6 fun s a b c e f ka out => ∃ p d1 d2 d3 d4 d5, s = .val (.adr p) ∧ a = .val d1 ∧ b = .val d2 ∧ c = .val d3 ∧ e = .val d4 ∧ f = .val d5 ∧ ka = [(p, .ins (He.ga K "Machine") [])] ∧
  out = Rt .non [(p, .ins (He.ga K "Machine") [("atoms", d1), ("firsts", d2), ("lasts", d3), ("pairs", d4), ("is_optional", d5)])]
section
variable {P : Program} {w : World} {K : PySem.W.Frag} {mg : Str → Option Value} {base : Heap}
theorem ok_Machine___init (T : Tx K mg) : Fn P w K mg base 4 (He.ma K (He.ga K "Machine") "__init__") ["self", "atoms", "firsts", "lasts", "pairs", "is_optional"] (ct_Machine___init K) := by
  obtain ⟨fd, F⟩ := T.d_Machine___init
  refine fn_ok F sc_Machine___init (fun _ _ _ _ _ _ us hl => match us, hl with | [_, _, _, _, _, _], _ => rfl) ct6_len (fun cdv A outer s H E hr => ⟨_, (pss_cons (ps_fld (pv 0) (pv 1) rfl)
      (pss_cons (ps_fld (pv 0) (pv 2) rfl)
      (pss_cons (ps_fld (pv 0) (pv 3) rfl)
      (pss_cons (ps_fld (pv 0) (pv 4) rfl)
      (pss_one (ps_fld (pv 0) (pv 5) rfl)))))), fun ws ka out B F0 Q hC hR hX => ?_⟩)
  obtain ⟨s1, a, b, c, e, f, rfl, p, d1, d2, d3, d4, d5, rfl, rfl, rfl, rfl, rfl, rfl, rfl, rfl⟩ := hC
  refine q_fld (j := 0) (a := p) (fs := []) (d := d1) (ev_var rfl) (ev_var rfl) rfl T.cl_Machine T.na_Machine_atoms (show 0 < 900 by decide) ?_
  refine q_fld (j := 0) (a := p) (fs := [("atoms", d1)]) (d := d2) (ev_var rfl) (ev_var rfl) rfl T.cl_Machine T.na_Machine_firsts (show 1 < 900 by decide) ?_
  refine q_fld (j := 0) (a := p) (fs := [("atoms", d1), ("firsts", d2)]) (d := d3) (ev_var rfl) (ev_var rfl) rfl T.cl_Machine T.na_Machine_lasts (show 2 < 900 by decide) ?_
  refine q_fld (j := 0) (a := p) (fs := [("atoms", d1), ("firsts", d2), ("lasts", d3)]) (d := d4) (ev_var rfl) (ev_var rfl) rfl T.cl_Machine T.na_Machine_pairs (show 3 < 900 by decide) ?_
  refine g_fld (j := 0) (a := p) (fs := [("atoms", d1), ("firsts", d2), ("lasts", d3), ("pairs", d4)]) (d := d5) (ev_var rfl) (ev_var rfl) rfl T.cl_Machine T.na_Machine_is_optional (show 4 < 900 by decide) ?_
  exact g_end hR ⟨rfl, rfl⟩
end
def ct_made_machine (K : PySem.W.Frag) : Ct := Ct1 fun a ka out => ∃ t : Tr, a = .val (t.d false) ∧ t.dep < 8 ∧ t.sm ∧ ka = [] ∧ out = Rt (McD K (mcT t 0)) []
section
variable {P : Program} {w : World} {K : PySem.W.Frag} {mg : Str → Option Value} {base : Heap}
theorem ok_made_machine (T : Tx K mg) (F_read_tree : Fn P w K mg base 22 (He.ga K "read_tree") ["tree", "start"] (ct_read_tree 8 K)) (F_Machine___init : Fn P w K mg base 4 (He.ma K (He.ga K "Machine") "__init__") ["self", "atoms", "firsts", "lasts", "pairs", "is_optional"] (ct_Machine___init K)) : Fn P w K mg base 24 (He.ga K "made_machine") ["tree"] (ct_made_machine K) := by
  obtain ⟨fd, F⟩ := T.d_made_machine
  refine fn_ok F sc_made_machine (fun _ _ _ _ _ _ us hl => match us, hl with | [_], _ => rfl) ct1_len (fun cdv A outer s H E hr => ⟨_, (pss_cons (ps_asg (pe_call (F_read_tree.up (by decide)).ok hr rfl T.g_read_tree.1 T.g_read_tree.2 (F_read_tree.up (by decide)).bn .nil (pass_own rfl rfl rfl rfl) (pa_cons (pv 0) (pa_cons pe_int pa_nil))) (pg_tup rfl (pgs_cons (pg_name (i := 1) sc_made_machine.nd rfl (by first | exact Or.inl rfl | exact Or.inr rfl)) (pgs_cons (pg_name (i := 2) sc_made_machine.nd rfl (by first | exact Or.inl rfl | exact Or.inr rfl)) (pgs_cons (pg_name (i := 3) sc_made_machine.nd rfl (by first | exact Or.inl rfl | exact Or.inr rfl)) (pgs_cons (pg_name (i := 4) sc_made_machine.nd rfl (by first | exact Or.inl rfl | exact Or.inr rfl)) (pgs_cons (pg_name (i := 5) sc_made_machine.nd rfl (by first | exact Or.inl rfl | exact Or.inr rfl)) pgs_nil)))))))
      (pss_one (ps_ret (pe_make T.mk_Machine (F_Machine___init.up (by decide)).ok hr rfl T.g_Machine.1 (F_Machine___init.up (by decide)).bn .nil (pass_own rfl rfl rfl rfl) (pa_cons (pv 1) (pa_cons (pv 2) (pa_cons (pv 3) (pa_cons (pe_keysT (v := .bl true) (r := .bool true) (hr).units0 rfl (pv 4) rfl (fun _ _ _ _ q => PyProof.Rows.Constant_bool q) rfl (by kernel_rfl) rfl rfl) (pa_cons (pv 5) pa_nil))))))))), fun ws ka out B F0 Q hC hR hX => ?_⟩)
  obtain ⟨a, rfl, t, rfl, hd, hs, rfl, rfl⟩ := hC
  have f := hs.fits 0
  refine q_asgT (w := .val (rdT (mcT t 0))) (ev_callP (ea2 (ev_var rfl) ev_int) ⟨_, _, rfl, t, 0, rfl, rfl, hd, hs, rfl, rfl⟩) (at_tup rfl (al_cons at_n (al_cons at_n (al_cons at_n (al_cons at_n (al_cons at_n al_nil)))))) ?_
  generalize mcT t 0 = m at *
  refine g_ret hR (evn_make (k1 := []) (k2 := []) (ea_cons (ev_var rfl) (ea_cons (ev_var rfl) (ea_cons (ev_var rfl) (ea_cons (evn_keysT (ps := m.pr) T.np_0 (ev_var rfl) (by have := f.p; omega)).dit (ea1 (ev_var rfl)))))) (fun a => ⟨_, ⟨_, _, _, _, _, _, rfl, a, _, _, _, _, _, rfl, rfl, rfl, rfl, rfl, rfl, rfl, rfl⟩, fun _ _ z => z⟩)).ins ⟨rfl, rfl⟩
end
def ct_Machine_takes (K : PySem.W.Frag) : Ct := Ct3 fun s a l ka out => ∃ (m : Mc) (i : Nat) (p : Bool × List Str) (x : Str), s = .val (McD K m) ∧ a = .val (.int (i : Int)) ∧ l = .val (.str x) ∧ m.at_[i]? = some p ∧ ka = [] ∧ out = Rt (.bl (atB p x)) []
section
variable {P : Program} {w : World} {K : PySem.W.Frag} {mg : Str → Option Value} {base : Heap}
theorem ok_Machine_takes (T : Tx K mg) : Fn P w K mg base 4 (He.ma K (He.ga K "Machine") "takes") ["self", "atom", "lane"] (ct_Machine_takes K) := by
  obtain ⟨fd, F⟩ := T.d_Machine_takes
  refine fn_ok F sc_Machine_takes (fun _ _ _ _ _ _ us hl => match us, hl with | [_, _, _], _ => rfl) ct3_len (fun cdv A outer s H E hr => ⟨_, (pss_cons (ps_asg (pe_ix ix_seq (pe_fld (pv 0) rfl) (pv 1) fun _ _ => rfl) (pg_tup rfl (pgs_cons (pg_name (i := 3) sc_Machine_takes.nd rfl (by first | exact Or.inl rfl | exact Or.inr rfl)) (pgs_cons (pg_name (i := 4) sc_Machine_takes.nd rfl (by first | exact Or.inl rfl | exact Or.inr rfl)) pgs_nil))))
      (pss_one (ps_ret (pe_cmpR (op_eqP (by have := (hr).units; exact this)) (pe_cmpR op_inU (pv 2) (pv 4) (by with_unfolding_all rfl)) (pv 3) (nomark _))))), fun ws ka out B F0 Q hC hR hX => ?_⟩)
  obtain ⟨s1, a, l, rfl, m, i, p, x, rfl, rfl, rfl, hi, rfl, rfl⟩ := hC
  refine q_asgT (w := .val (atD p)) (ev_ixV (ev_fld (ev_var rfl) .v T.cl_Machine T.na_Machine_atoms rfl) (ev_var rfl) .vl (atI_nat (by rw [List.getElem?_map, hi]; rfl))) at_t2 ?_
  exact g_ret hR (ev_eqB (ev_inL (ss := p.2) (ev_var rfl) (ev_var rfl) .vt) (ev_var rfl)) ⟨rfl, rfl⟩
end
def ct_Machine_is_behind (K : PySem.W.Frag) : Ct := Ct3 fun s a b ka out => ∃ (m : Mc) (ps : List Nat) (i : Nat), s = .val (McD K m) ∧ a = .val (.tup (nmD ps)) ∧ b = .val (.int (i : Int)) ∧ ps.length ≤ 1000 ∧ ka = [] ∧ out = Rt (.bl (behM m ps i)) []
section
variable {P : Program} {w : World} {K : PySem.W.Frag} {mg : Str → Option Value} {base : Heap}
theorem ok_Machine_is_behind (T : Tx K mg) : Fn P w K mg base 4 (He.ma K (He.ga K "Machine") "is_behind") ["self", "places", "atom"] (ct_Machine_is_behind K) := by
  obtain ⟨fd, F⟩ := T.d_Machine_is_behind
  refine fn_ok F sc_Machine_is_behind (fun _ _ _ _ _ _ us hl => match us, hl with | [_, _, _], _ => rfl) ct3_len (fun cdv A outer s H E hr => ⟨_, (pss_one (ps_ret (pe_callB (cr_any rfl) rfl T.n_any (by decide +kernel) (pa_cons (pe_lc (te := (tDIn (tTup (tCons (tVar 3) (tCons (tVar 2) tNil))) (tFld K (tVar 0) "pairs"))) (tt := tYes) (own := [("place", 3)]) rfl sc_Machine_is_behind.nd (pi_seq (pv 1)) (blk_ok ["self", "places", "atom", "place"] (defScope s_Machine_is_behind) rfl rfl (by decide +kernel)) (fun _ _ _ _ _ => (pg_name (i := 3) sc_Machine_is_behind.nd rfl (by first | exact Or.inl rfl | exact Or.inr rfl))) (fun _ _ _ _ _ => pts_nil) (fun _ _ _ _ _ => (pe_cmp (pc_din (hu1 hr) (pe_tup (pa_cons (pv 3) (pa_cons (pv 2) pa_nil))) (pe_fld (pv 0) rfl)) (by with_unfolding_all rfl)))) pa_nil)))), fun ws ka out B F0 Q hC hR hX => ?_⟩)
  obtain ⟨s1, a, b, rfl, m, ps, i, rfl, rfl, rfl, hl, rfl, rfl⟩ := hC
  refine g_ret hR ((ev_cb (ea1 (evn_filt_to (ds := ps.map fun p => D.bl (decide ((p, i) ∈ m.pr))) (es := (ps.map fun p => decide ((p, i) ∈ m.pr)).map D.bl) (evn_map (xs := ps) (g := fun n : Nat => W.val (.int (n : Int))) (f := fun p => D.bl (decide ((p, i) ∈ m.pr))) (C := Stay (.val (.tup (nmD ps))) (nmD ps)) (EvI.ws (ei_seq (ds := nmD ps) (ev_var rfl) .vt) (by unfold nmD; rw [List.map_map]; rfl)) (by decide) (by omega) ⟨trivial, fun _ => trivial⟩ (fun p hp => (ev_dinP (p := (p, i)) T.np_0 (ev_tup (ds := [.int (p : Int), .int (i : Int)]) (ea2 (ev_var rfl) (ev_var rfl)) (Nat.le_of_ble_eq_true rfl)) (ev_fld (ev_var rfl) .v T.cl_Machine T.na_Machine_pairs rfl)).to (by rw [prs_in]))) (List.map_map.symm)).lst) (rc_any .vl)).to ?_) ⟨rfl, rfl⟩
  unfold behM
  rw [List.any_map]
  rfl
end
theorem tk_at {m : Mc} {i : Nat} {x : Str} {p : Bool × List Str} (h : m.at_[i]? = some p) : tkM m i x = atB p x := by
  unfold tkM
  rw [h]
theorem at_lt {m : Mc} {i : Nat} (h : i < m.at_.length) : ∃ p, m.at_[i]? = some p := ⟨_, List.getElem?_eq_getElem h⟩
def ct_Machine_after (K : PySem.W.Frag) : Ct := Ct3 fun s a l ka out => ∃ (m : Mc) (ps : List Nat) (x : Str), s = .val (McD K m) ∧ a = .val (.tup (nmD ps)) ∧ l = .val (.str x) ∧ Fits m ∧ ps.length ≤ 1000 ∧ ka = [] ∧ out = Rt (.tup (nmD (afterM m ps x))) []
section
variable {P : Program} {w : World} {K : PySem.W.Frag} {mg : Str → Option Value} {base : Heap}
theorem ok_Machine_after (T : Tx K mg) (F_Machine_takes : Fn P w K mg base 4 (He.ma K (He.ga K "Machine") "takes") ["self", "atom", "lane"] (ct_Machine_takes K)) (F_Machine_is_behind : Fn P w K mg base 4 (He.ma K (He.ga K "Machine") "is_behind") ["self", "places", "atom"] (ct_Machine_is_behind K)) : Fn P w K mg base 6 (He.ma K (He.ga K "Machine") "after") ["self", "places", "lane"] (ct_Machine_after K) := by
  obtain ⟨fd, F⟩ := T.d_Machine_after
  refine fn_ok F sc_Machine_after (fun _ _ _ _ _ _ us hl => match us, hl with | [_, _, _], _ => rfl) ct3_len (fun cdv A outer s H E hr => ⟨_, (pss_cons (ps_set (i := 3) sc_Machine_after.nd rfl (by first | exact Or.inl rfl | exact Or.inr rfl) (pe_callB call_lenU rfl T.n_len (by decide +kernel) (pa_cons (pe_fld (pv 0) rfl) pa_nil)))
      (pss_one (ps_ret (pe_callTy call_tupU rfl T.n_tuple (by decide +kernel) (pa_cons (pe_lc (te := (tVar 4)) (tt := (tAnd (tB (tMeth (He.ga K "Machine") "takes" (spC K (ct_Machine_takes K)) [] (fun _ _ _ => False) (tVar 0) (tCons (tVar 4) (tCons (tVar 2) tNil)))) (tB (tMeth (He.ga K "Machine") "is_behind" (spC K (ct_Machine_is_behind K)) [] (fun _ _ _ => False) (tVar 0) (tCons (tVar 1) (tCons (tVar 4) tNil)))))) (own := [("atom", 4)]) rfl sc_Machine_after.nd (pi_range1 rfl T.n_range (pa_cons (pv 3) pa_nil)) (blk_ok ["self", "places", "lane", "size", "atom"] (defScope s_Machine_after) rfl rfl (by decide +kernel)) (fun _ _ _ _ _ => (pg_name (i := 4) sc_Machine_after.nd rfl (by first | exact Or.inl rfl | exact Or.inr rfl))) (fun _ _ _ _ _ => (pts_one (PW.pt (pw_and (pt_val (pe_meth (pv 0) T.cl_Machine T.me_Machine_takes (F_Machine_takes.up (by decide)).ok hr (F_Machine_takes.up (by decide)).bn .nil passes_no (pa_cons (pv 4) (pa_cons (pv 2) pa_nil)))) (pw_and1 (pt_val (pe_meth (pv 0) T.cl_Machine T.me_Machine_is_behind (F_Machine_is_behind.up (by decide)).ok hr (F_Machine_is_behind.up (by decide)).bn .nil passes_no (pa_cons (pv 1) (pa_cons (pv 4) pa_nil))))))))) (fun _ _ _ _ _ => (pv 4))) pa_nil))))), fun ws ka out B F0 Q hC hR hX => ?_⟩)
  obtain ⟨s1, a, l, rfl, m, ps, x, rfl, rfl, rfl, f, hl, rfl, rfl⟩ := hC
  have fa := f.a
  refine q_asg (w := .val (.int ((m.at_.length : Nat) : Int))) ((ev_len (ev_fld (ev_var rfl) .v T.cl_Machine T.na_Machine_atoms rfl) .vl).to (by rw [List.length_map])) ?_
  exact g_ret hR (ev_cb (ea1 (evn_filt (xs := List.range m.at_.length) (g := fun i : Nat => W.val (.int (i : Int))) (f := fun i : Nat => D.int (i : Int)) (p := fun a => tkM m a x && behM m ps a) (C := fun _ => True) (ei_range1 (m := ((m.at_.length : Nat) : Int)) (ea1 (ev_var rfl)) (by omega) (by omega)) (by decide) (by rw [List.length_range]; omega) ⟨trivial, fun _ => trivial⟩ (fun i hi => by
    obtain ⟨p, hp⟩ := at_lt (m := m) (List.mem_range.mp hi)
    refine et_and ((et_B (ev_methP (ev_var rfl) .v rfl (ea2 (ev_var rfl) (ev_var rfl)) ⟨_, _, _, rfl, m, i, p, x, rfl, rfl, rfl, hp, rfl, rfl⟩)).to (by rw [tk_at hp])) (fun _ => et_B (ev_methP (ev_var rfl) .v rfl (ea2 (ev_var rfl) (ev_var rfl)) ⟨_, _, _, rfl, m, ps, i, rfl, rfl, rfl, hl, rfl, rfl⟩))) (fun i hi _ => ev_var rfl)).lst) (rc_tupL .vl (.inl rfl))) ⟨rfl, rfl⟩
end
def ct_Machine_started (K : PySem.W.Frag) : Ct := Ct2 fun s l ka out => ∃ (m : Mc) (x : Str), s = .val (McD K m) ∧ l = .val (.str x) ∧ Fits m ∧ (∀ a ∈ m.fi, a < m.at_.length) ∧ ka = [] ∧ out = Rt (.tup (nmD (startM m x))) []
section
variable {P : Program} {w : World} {K : PySem.W.Frag} {mg : Str → Option Value} {base : Heap}
theorem ok_Machine_started (T : Tx K mg) (F_Machine_takes : Fn P w K mg base 4 (He.ma K (He.ga K "Machine") "takes") ["self", "atom", "lane"] (ct_Machine_takes K)) : Fn P w K mg base 6 (He.ma K (He.ga K "Machine") "started") ["self", "lane"] (ct_Machine_started K) := by
  obtain ⟨fd, F⟩ := T.d_Machine_started
  refine fn_ok F sc_Machine_started (fun _ _ _ _ _ _ us hl => match us, hl with | [_, _], _ => rfl) ct2_len (fun cdv A outer s H E hr => ⟨_, (pss_one (ps_ret (pe_callTy call_tupU rfl T.n_tuple (by decide +kernel) (pa_cons (pe_lc (te := (tVar 2)) (tt := (tB (tMeth (He.ga K "Machine") "takes" (spC K (ct_Machine_takes K)) [] (fun _ _ _ => False) (tVar 0) (tCons (tVar 2) (tCons (tVar 1) tNil))))) (own := [("atom", 2)]) rfl sc_Machine_started.nd (pi_seq (pe_fld (pv 0) rfl)) (blk_ok ["self", "lane", "atom"] (defScope s_Machine_started) rfl rfl (by decide +kernel)) (fun _ _ _ _ _ => (pg_name (i := 2) sc_Machine_started.nd rfl (by first | exact Or.inl rfl | exact Or.inr rfl))) (fun _ _ _ _ _ => (pts_one (pt_val (pe_meth (pv 0) T.cl_Machine T.me_Machine_takes (F_Machine_takes.up (by decide)).ok hr (F_Machine_takes.up (by decide)).bn .nil passes_no (pa_cons (pv 2) (pa_cons (pv 1) pa_nil)))))) (fun _ _ _ _ _ => (pv 2))) pa_nil)))), fun ws ka out B F0 Q hC hR hX => ?_⟩)
  obtain ⟨s1, l, rfl, m, x, rfl, rfl, f, hr, rfl, rfl⟩ := hC
  have ff := f.f
  exact g_ret hR (ev_cb (ea1 (evn_filt (xs := m.fi) (g := fun i : Nat => W.val (.int (i : Int))) (f := fun i : Nat => D.int (i : Int)) (p := fun a => tkM m a x) (ei_map (ts := m.fi) (f := fun n : Nat => D.int (n : Int)) (ev_fld (ev_var rfl) .v T.cl_Machine T.na_Machine_firsts rfl)) (by decide) (by omega) ⟨trivial, fun _ => trivial⟩ (fun i hi => by
    obtain ⟨p, hp⟩ := at_lt (hr i hi)
    exact (et_B (ev_methP (ev_var rfl) .v rfl (ea2 (ev_var rfl) (ev_var rfl)) ⟨_, _, _, rfl, m, i, p, x, rfl, rfl, rfl, hp, rfl, rfl⟩)).to (by rw [tk_at hp])) (fun i hi _ => ev_var rfl)).lst) (rc_tupL .vl (.inl rfl))) ⟨rfl, rfl⟩
end
def ct_Machine_is_done (K : PySem.W.Frag) : Ct := Ct2 fun s a ka out => ∃ (m : Mc) (ps : List Nat), s = .val (McD K m) ∧ a = .val (.tup (nmD ps)) ∧ ps.length ≤ 1000 ∧ ka = [] ∧ out = Rt (.bl (doneM m ps)) []
section
variable {P : Program} {w : World} {K : PySem.W.Frag} {mg : Str → Option Value} {base : Heap}
theorem ok_Machine_is_done (T : Tx K mg) : Fn P w K mg base 4 (He.ma K (He.ga K "Machine") "is_done") ["self", "places"] (ct_Machine_is_done K) := by
  obtain ⟨fd, F⟩ := T.d_Machine_is_done
  refine fn_ok F sc_Machine_is_done (fun _ _ _ _ _ _ us hl => match us, hl with | [_, _], _ => rfl) ct2_len (fun cdv A outer s H E hr => ⟨_, (pss_one (ps_ret (pe_callB (cr_any rfl) rfl T.n_any (by decide +kernel) (pa_cons (pe_lc (te := (tOp (rInU K) (tVar 2) (tFld K (tVar 0) "lasts"))) (tt := tYes) (own := [("place", 2)]) rfl sc_Machine_is_done.nd (pi_seq (pv 1)) (blk_ok ["self", "places", "place"] (defScope s_Machine_is_done) rfl rfl (by decide +kernel)) (fun _ _ _ _ _ => (pg_name (i := 2) sc_Machine_is_done.nd rfl (by first | exact Or.inl rfl | exact Or.inr rfl))) (fun _ _ _ _ _ => pts_nil) (fun _ _ _ _ _ => (pe_cmpR op_inU (pv 2) (pe_fld (pv 0) rfl) (by with_unfolding_all rfl)))) pa_nil)))), fun ws ka out B F0 Q hC hR hX => ?_⟩)
  obtain ⟨s1, a, rfl, m, ps, rfl, rfl, hl, rfl, rfl⟩ := hC
  refine g_ret hR ((ev_cb (ea1 (evn_filt_to (ds := ps.map fun p => D.bl (decide (p ∈ m.la))) (es := (ps.map fun p => decide (p ∈ m.la)).map D.bl) (evn_map (xs := ps) (g := fun n : Nat => W.val (.int (n : Int))) (f := fun p => D.bl (decide (p ∈ m.la))) (C := Stay (.val (.tup (nmD ps))) (nmD ps)) (EvI.ws (ei_seq (ds := nmD ps) (ev_var rfl) .vt) (by unfold nmD; rw [List.map_map]; rfl)) (by decide) (by omega) ⟨trivial, fun _ => trivial⟩ (fun p hp => ev_inN (ev_var rfl) (ev_fld (ev_var rfl) .v T.cl_Machine T.na_Machine_lasts rfl) .vl)) (List.map_map.symm)).lst) (rc_any .vl)).to ?_) ⟨rfl, rfl⟩
  unfold doneM
  rw [List.any_map]
  rfl
end
theorem after_len {m : Mc} {ps : List Nat} {x : Str} (f : Fits m) : (afterM m ps x).length ≤ 1000 := by
  have h := List.length_filter_le (fun a => tkM m a x && behM m ps a) (List.range m.at_.length)
  rw [List.length_range] at h
  have := f.a
  show (List.filter _ _).length ≤ 1000
  omega
theorem start_len {m : Mc} {x : Str} (f : Fits m) : (startM m x).length ≤ 1000 := by
  have h := List.length_filter_le (fun a => tkM m a x) m.fi
  have := f.f
  show (List.filter _ _).length ≤ 1000
  omega
theorem run_len {m : Mc} (f : Fits m) : ∀ (r : List Str) (ps : List Nat), ps.length ≤ 1000 → (r.foldl (afterM m) ps).length ≤ 1000
  | [], ps, h => h
  | x :: r, ps, h => run_len f r _ (after_len f)
def ct_accepts (K : PySem.W.Frag) : Ct := Ct2 fun s a ka out => ∃ (m : Mc) (w : List Str), s = .val (McD K m) ∧ (a = .val (.tup (stD w)) ∨ a = .val (.lst (stD w))) ∧ Fits m ∧ (∀ a ∈ m.fi, a < m.at_.length) ∧ w.length ≤ 1000 ∧ ka = [] ∧ out = Rt (.bl (accM m w)) []
section
variable {P : Program} {w : World} {K : PySem.W.Frag} {mg : Str → Option Value} {base : Heap}
theorem ok_accepts (T : Tx K mg) (F_Machine_after : Fn P w K mg base 6 (He.ma K (He.ga K "Machine") "after") ["self", "places", "lane"] (ct_Machine_after K)) (F_Machine_started : Fn P w K mg base 6 (He.ma K (He.ga K "Machine") "started") ["self", "lane"] (ct_Machine_started K)) (F_Machine_is_done : Fn P w K mg base 4 (He.ma K (He.ga K "Machine") "is_done") ["self", "places"] (ct_Machine_is_done K)) : Fn P w K mg base 8 (He.ga K "accepts") ["machine", "lanes"] (ct_accepts K) := by
  obtain ⟨fd, F⟩ := T.d_accepts
  refine fn_ok F sc_accepts (fun _ _ _ _ _ _ us hl => match us, hl with | [_, _], _ => rfl) ct2_len (fun cdv A outer s H E hr => ⟨_, (pss_cons (ps_if (pt_cmpR (op_eqP (by have := (hr).units; exact this)) (pe_callB call_lenU rfl T.n_len (by decide +kernel) (pa_cons (pv 1) pa_nil)) pe_int (nomark _))
      (pss_one (ps_ret (pe_fld (pv 0) rfl)))
      pss_nil)
      (pss_cons (ps_set (i := 2) sc_accepts.nd rfl (by first | exact Or.inl rfl | exact Or.inr rfl) (pe_meth (pv 0) T.cl_Machine T.me_Machine_started (F_Machine_started.up (by decide)).ok hr (F_Machine_started.up (by decide)).bn .nil (pass_own rfl rfl rfl rfl) (pa_cons (pe_ix ix_seq (pv 1) pe_int fun _ _ => rfl) pa_nil)))
      (pss_cons (ps_for (passes_of rfl) rfl (pi_seq (pe_slice sl_U (pv 1) (po_some pe_int) po_none)) (pg_name (i := 3) sc_accepts.nd rfl (by first | exact Or.inl rfl | exact Or.inr rfl)) (pss_one (ps_set (i := 2) sc_accepts.nd rfl (by first | exact Or.inl rfl | exact Or.inr rfl) (pe_meth (pv 0) T.cl_Machine T.me_Machine_after (F_Machine_after.up (by decide)).ok hr (F_Machine_after.up (by decide)).bn .nil (pass_own rfl rfl rfl rfl) (pa_cons (pv 2) (pa_cons (pv 3) pa_nil))))))
      (pss_one (ps_ret (pe_meth (pv 0) T.cl_Machine T.me_Machine_is_done (F_Machine_is_done.up (by decide)).ok hr (F_Machine_is_done.up (by decide)).bn .nil (pass_own rfl rfl rfl rfl) (pa_cons (pv 2) pa_nil))))))), fun ws ka out B F0 Q hC hR hX => ?_⟩)
  obtain ⟨s1, a, rfl, m, w, rfl, ha, f, hr, hl, rfl, rfl⟩ := hC
  have hlk : ∃ t, Lk [] a t (stD w) false := by
    rcases ha with rfl | rfl
    · exact ⟨_, .vt⟩
    · exact ⟨_, .vl⟩
  obtain ⟨t, lk⟩ := hlk
  cases w with
  | nil =>
    exact q_when (b := true) ((et_test (ev_eqI (ev_len (ev_var rfl) lk) ev_int)).to rfl) (fun _ => g_ret hR (ev_fld (ev_var rfl) .v T.cl_Machine T.na_Machine_is_optional rfl) ⟨rfl, rfl⟩) (fun z => by cases z)
  | cons x r =>
    refine q_when (b := false) ((et_test (ev_eqI (ev_len (ev_var rfl) lk) ev_int)).to (by
      rw [beq_eq_false_iff_ne, stD_len, List.length_cons]
      omega)) (fun z => by cases z) (fun _ => ?_)
    refine q_asg (w := .val (.tup (nmD (startM m x)))) (ev_methP (ev_var rfl) .v rfl (ea1 (ev_ixV (ev_var rfl) ev_int lk at0)) ⟨_, _, rfl, m, x, rfl, rfl, f, hr, rfl, rfl⟩) ?_
    have hsl : (r.length : Int) ≤ 1000 := by rw [List.length_cons] at hl; omega
    have cut : cutD (stD (x :: r)) (some 1) none = stD r := by
      rw [cut_from (by decide) (by rw [stD_len, List.length_cons]; omega)]
      rfl
    have it : EvI K (iSeq K (tSl (rSlU K) (tVar 1) (tPart (tC (.int 1))) tNoPart)) [some (.val (McD K m)), some a, some (.val (.tup (nmD (startM m x)))), none] [] (r.map fun s => W.val (.str s)) (fun _ => True) [] := by
      rcases ha with rfl | rfl
      · exact ei_strsL (t := true) (b := false) ((ev_slT (ev_var rfl) (eo_some ev_int) eo_none).to (by rw [cut])) .vt
      · exact ei_strs ((evn_sl (ev_var rfl) (eo_some ev_int) eo_none .vl).lst.to (by rw [cut]))
    refine q_forn it (fun i ro ka => ∃ v, ro = [some (.val (McD K m)), some a, some (.val (.tup (nmD (runM m (x :: r.take i))))), v] ∧ ka = []) ⟨none, rfl, rfl⟩ (fun _ _ _ _ => trivial) (fun i w ro2 ka2 ta' hw ⟨v, e1, e2⟩ => ?_) (fun ro2 ka2 ta' ⟨v, e1, e2⟩ _ => ?_)
    · subst e1 e2
      rw [List.getElem?_map] at hw
      obtain ⟨y, hy, rfl⟩ := Option.map_eq_some_iff.mp hw
      refine g_asg (w := .val (.tup (nmD (afterM m (runM m (x :: r.take i)) y)))) (ev_methP (ev_var rfl) .v rfl (ea2 (ev_var rfl) (ev_var rfl)) ⟨_, _, _, rfl, m, _, y, rfl, rfl, rfl, f, run_len f (r.take i) _ (start_len f), rfl, rfl⟩) (g_jp ⟨some (.val (.str y)), ?_, rfl⟩)
      have e : runM m (x :: r.take (i + 1)) = afterM m (runM m (x :: r.take i)) y := by
        show (r.take (i + 1)).foldl _ _ = _
        rw [take_succ_some hy, List.foldl_append]
        rfl
      rw [e]
      rfl
    · subst e1 e2
      rw [List.length_map, List.take_length]
      refine g_ret hR ((ev_methP (ev_var rfl) .v rfl (ea1 (ev_var rfl)) ⟨_, _, rfl, m, _, rfl, rfl, run_len f r _ (start_len f), rfl, rfl⟩).to ?_) ⟨rfl, rfl⟩
      unfold accM
      rw [if_neg (by simp)]
end
def ct_joined (K : PySem.W.Frag) : Ct := Ct3 fun k a b ka out => ∃ d e f, k = .val d ∧ a = .val e ∧ b = .val f ∧ ka = [] ∧ out = Rt (.tup [d, e, f]) []
section
variable {P : Program} {w : World} {K : PySem.W.Frag} {mg : Str → Option Value} {base : Heap}
theorem ok_joined (T : Tx K mg) : Fn P w K mg base 4 (He.ga K "joined") ["kind", "one", "two"] (ct_joined K) := by
  obtain ⟨fd, F⟩ := T.d_joined
  refine fn_ok F sc_joined (fun _ _ _ _ _ _ us hl => match us, hl with | [_, _, _], _ => rfl) ct3_len (fun cdv A outer s H E hr => ⟨_, (pss_one (ps_ret (pe_tup (pa_cons (pv 0) (pa_cons (pv 1) (pa_cons (pv 2) pa_nil)))))), fun ws ka out B F0 Q hC hR hX => ?_⟩)
  obtain ⟨k, a, b, rfl, d, e, f, rfl, rfl, rfl, rfl, rfl⟩ := hC
  exact g_ret hR (ev_tup (ds := [d, e, f]) (ea3 (ev_var rfl) (ev_var rfl) (ev_var rfl)) (Nat.le_of_ble_eq_true rfl)) ⟨rfl, rfl⟩
end
def ct_opposite (d : Nat) (K : PySem.W.Frag) : Ct := Ct1 fun a ka out => ∃ t : Tr, a = .val (t.d false) ∧ t.dep < d ∧ ka = [] ∧ out = Rt ((rvT t).d false) []
theorem ct_opposite_zero (K : PySem.W.Frag) : ∀ ws ka out, ¬ ct_opposite 0 K ws ka out := fun ws ka out ⟨_, _, t, _, hd, _⟩ => absurd hd (Nat.not_lt_zero _)
section
variable {P : Program} {w : World} {K : PySem.W.Frag} {mg : Str → Option Value} {base : Heap}
theorem ok_opposite (T : Tx K mg) : ∀ d : Nat, Fn P w K mg base (2 * d + 4) (He.ga K "opposite") ["tree"] (ct_opposite d K) := by
  obtain ⟨fd, F⟩ := T.d_opposite
  intro d
  induction d with
  | zero => exact fn_vac F sc_opposite (fun _ _ _ _ _ _ us hl => match us, hl with | [_], _ => rfl) (ct_opposite_zero K)
  | succ d F_opposite => ?_
  refine fn_ok F sc_opposite (fun _ _ _ _ _ _ us hl => match us, hl with | [_], _ => rfl) ct1_len (fun cdv A outer s H E hr => ⟨_, (pss_cons (ps_if (pt_cmpR (op_eqP (by have := (hr).units; exact this)) (pe_ix ix_seq (pv 0) pe_int fun _ _ => rfl) pe_str (nomark _))
      (pss_one (ps_ret (pe_tup (pa_cons pe_str (pa_cons (pe_call (F_opposite.up (by omega)).ok hr rfl T.g_opposite.1 T.g_opposite.2 (F_opposite.up (by omega)).bn .nil (pass_own rfl rfl rfl rfl) (pa_cons (pe_ix ix_seq (pv 0) pe_int fun _ _ => rfl) pa_nil)) (pa_cons (pe_call (F_opposite.up (by omega)).ok hr rfl T.g_opposite.1 T.g_opposite.2 (F_opposite.up (by omega)).bn .nil (pass_own rfl rfl rfl rfl) (pa_cons (pe_ix ix_seq (pv 0) pe_int fun _ _ => rfl) pa_nil)) pa_nil))))))
      pss_nil)
      (pss_cons (ps_if (pt_cmpR (op_eqP (by have := (hr).units; exact this)) (pe_ix ix_seq (pv 0) pe_int fun _ _ => rfl) pe_str (nomark _))
      (pss_one (ps_ret (pe_tup (pa_cons pe_str (pa_cons (pe_call (F_opposite.up (by omega)).ok hr rfl T.g_opposite.1 T.g_opposite.2 (F_opposite.up (by omega)).bn .nil (pass_own rfl rfl rfl rfl) (pa_cons (pe_ix ix_seq (pv 0) pe_int fun _ _ => rfl) pa_nil)) (pa_cons (pe_call (F_opposite.up (by omega)).ok hr rfl T.g_opposite.1 T.g_opposite.2 (F_opposite.up (by omega)).bn .nil (pass_own rfl rfl rfl rfl) (pa_cons (pe_ix ix_seq (pv 0) pe_int fun _ _ => rfl) pa_nil)) pa_nil))))))
      pss_nil)
      (pss_cons (ps_if (PW.pt (pw_or (pt_cmpR (op_eqP (by have := (hr).units; exact this)) (pe_ix ix_seq (pv 0) pe_int fun _ _ => rfl) pe_str (nomark _)) (pw_or1 (pt_cmpR (op_eqP (by have := (hr).units; exact this)) (pe_ix ix_seq (pv 0) pe_int fun _ _ => rfl) pe_str (nomark _)))))
      (pss_one (ps_ret (pe_tup (pa_cons (pe_ix ix_seq (pv 0) pe_int fun _ _ => rfl) (pa_cons (pe_call (F_opposite.up (by omega)).ok hr rfl T.g_opposite.1 T.g_opposite.2 (F_opposite.up (by omega)).bn .nil (pass_own rfl rfl rfl rfl) (pa_cons (pe_ix ix_seq (pv 0) pe_int fun _ _ => rfl) pa_nil)) pa_nil)))))
      pss_nil)
      (pss_one (ps_ret (pv 0)))))), fun ws ka out B F0 Q hC hR hX => ?_⟩)
  obtain ⟨a, rfl, t, rfl, hd, rfl, rfl⟩ := hC
  cases t with
  | «at» kd ns =>
    refine q_when (b := false) ((et_test (ev_eqS (ev_ixV (ev_var rfl) ev_int .vt at0) ev_str)).to (by cases kd <;> decide)) (fun z => by cases z) (fun _ => ?_)
    refine q_when (b := false) ((et_test (ev_eqS (ev_ixV (ev_var rfl) ev_int .vt at0) ev_str)).to (by cases kd <;> decide)) (fun z => by cases z) (fun _ => ?_)
    refine q_when (b := false) ((et_or (et_test (ev_eqS (ev_ixV (ev_var rfl) ev_int .vt at0) ev_str)) (fun _ => et_test (ev_eqS (ev_ixV (ev_var rfl) ev_int .vt at0) ev_str))).to (by cases kd <;> decide)) (fun z => by cases z) (fun _ => ?_)
    exact g_ret hR (ev_var rfl) ⟨rfl, rfl⟩
  | join x y =>
    have hx : max x.dep y.dep + 1 < d + 1 := hd
    refine q_when (b := true) ((et_test (ev_eqS (ev_ixV (ev_var rfl) ev_int .vt at0) ev_str)).to (by decide)) (fun _ => ?_) (fun z => by cases z)
    exact g_ret hR (ev_tup (ds := [.str "join", (rvT y).d false, (rvT x).d false]) (ea3 ev_str (ev_callP (ea1 (ev_ixV (ev_var rfl) ev_int .vt (atI_nat (j := 2) rfl))) ⟨_, rfl, y, rfl, by omega, rfl, rfl⟩) (ev_callP (ea1 (ev_ixV (ev_var rfl) ev_int .vt (atI_nat (j := 1) rfl))) ⟨_, rfl, x, rfl, by omega, rfl, rfl⟩)) (Nat.le_of_ble_eq_true rfl)) ⟨rfl, rfl⟩
  | either x y =>
    have hx : max x.dep y.dep + 1 < d + 1 := hd
    refine q_when (b := false) ((et_test (ev_eqS (ev_ixV (ev_var rfl) ev_int .vt at0) ev_str)).to (by decide)) (fun z => by cases z) (fun _ => ?_)
    refine q_when (b := true) ((et_test (ev_eqS (ev_ixV (ev_var rfl) ev_int .vt at0) ev_str)).to (by decide)) (fun _ => ?_) (fun z => by cases z)
    exact g_ret hR (ev_tup (ds := [.str "either", (rvT x).d false, (rvT y).d false]) (ea3 ev_str (ev_callP (ea1 (ev_ixV (ev_var rfl) ev_int .vt (atI_nat (j := 1) rfl))) ⟨_, rfl, x, rfl, by omega, rfl, rfl⟩) (ev_callP (ea1 (ev_ixV (ev_var rfl) ev_int .vt (atI_nat (j := 2) rfl))) ⟨_, rfl, y, rfl, by omega, rfl, rfl⟩)) (Nat.le_of_ble_eq_true rfl)) ⟨rfl, rfl⟩
  | rep x =>
    have hx : x.dep + 1 < d + 1 := hd
    refine q_when (b := false) ((et_test (ev_eqS (ev_ixV (ev_var rfl) ev_int .vt at0) ev_str)).to (by decide)) (fun z => by cases z) (fun _ => ?_)
    refine q_when (b := false) ((et_test (ev_eqS (ev_ixV (ev_var rfl) ev_int .vt at0) ev_str)).to (by decide)) (fun z => by cases z) (fun _ => ?_)
    refine q_when (b := true) ((et_or (et_test (ev_eqS (ev_ixV (ev_var rfl) ev_int .vt at0) ev_str)) (fun _ => et_test (ev_eqS (ev_ixV (ev_var rfl) ev_int .vt at0) ev_str))).to (by decide)) (fun _ => ?_) (fun z => by cases z)
    exact g_ret hR (ev_tup (ds := [.str "repeat", (rvT x).d false]) (ea2 (ev_ixV (ev_var rfl) ev_int .vt at0) (ev_callP (ea1 (ev_ixV (ev_var rfl) ev_int .vt (atI_nat (j := 1) rfl))) ⟨_, rfl, x, rfl, by omega, rfl, rfl⟩)) (Nat.le_of_ble_eq_true rfl)) ⟨rfl, rfl⟩
  | opt x =>
    have hx : x.dep + 1 < d + 1 := hd
    refine q_when (b := false) ((et_test (ev_eqS (ev_ixV (ev_var rfl) ev_int .vt at0) ev_str)).to (by decide)) (fun z => by cases z) (fun _ => ?_)
    refine q_when (b := false) ((et_test (ev_eqS (ev_ixV (ev_var rfl) ev_int .vt at0) ev_str)).to (by decide)) (fun z => by cases z) (fun _ => ?_)
    refine q_when (b := true) ((et_or (et_test (ev_eqS (ev_ixV (ev_var rfl) ev_int .vt at0) ev_str)) (fun _ => et_test (ev_eqS (ev_ixV (ev_var rfl) ev_int .vt at0) ev_str))).to (by decide)) (fun _ => ?_) (fun z => by cases z)
    exact g_ret hR (ev_tup (ds := [.str "option", (rvT x).d false]) (ea2 (ev_ixV (ev_var rfl) ev_int .vt at0) (ev_callP (ea1 (ev_ixV (ev_var rfl) ev_int .vt (atI_nat (j := 1) rfl))) ⟨_, rfl, x, rfl, by omega, rfl, rfl⟩)) (Nat.le_of_ble_eq_true rfl)) ⟨rfl, rfl⟩
end
def ct_tree_names (d : Nat) (K : PySem.W.Frag) : Ct := Ct1 fun a ka out => ∃ t : Tr, a = .val (t.d false) ∧ t.dep < d ∧ t.nms.length ≤ 1000 ∧ ka = [] ∧ out = Rt (.lst (stD t.nms)) []
theorem ct_tree_names_zero (K : PySem.W.Frag) : ∀ ws ka out, ¬ ct_tree_names 0 K ws ka out := fun ws ka out ⟨_, _, t, _, hd, _⟩ => absurd hd (Nat.not_lt_zero _)
section
variable {P : Program} {w : World} {K : PySem.W.Frag} {mg : Str → Option Value} {base : Heap}
theorem ok_tree_names (T : Tx K mg) : ∀ d : Nat, Fn P w K mg base (2 * d + 4) (He.ga K "tree_names") ["tree"] (ct_tree_names d K) := by
  obtain ⟨fd, F⟩ := T.d_tree_names
  intro d
  induction d with
  | zero => exact fn_vac F sc_tree_names (fun _ _ _ _ _ _ us hl => match us, hl with | [_], _ => rfl) (ct_tree_names_zero K)
  | succ d F_tree_names => ?_
  refine fn_ok F sc_tree_names (fun _ _ _ _ _ _ us hl => match us, hl with | [_], _ => rfl) ct1_len (fun cdv A outer s H E hr => ⟨_, (pss_cons (ps_if (PW.pt (pw_or (pt_cmpR (op_eqP (by have := (hr).units; exact this)) (pe_ix ix_seq (pv 0) pe_int fun _ _ => rfl) pe_str (nomark _)) (pw_or1 (pt_cmpR (op_eqP (by have := (hr).units; exact this)) (pe_ix ix_seq (pv 0) pe_int fun _ _ => rfl) pe_str (nomark _)))))
      (pss_one (ps_ret (pe_callTy call_lstU rfl T.n_list (by decide +kernel) (pa_cons (pe_ix ix_seq (pv 0) pe_int fun _ _ => rfl) pa_nil))))
      pss_nil)
      (pss_cons (ps_set (i := 1) sc_tree_names.nd rfl (by first | exact Or.inl rfl | exact Or.inr rfl) (pe_lst pa_nil))
      (pss_cons (ps_for (passes_of rfl) rfl (pi_seq (pe_slice sl_U (pv 0) (po_some pe_int) po_none)) (pg_name (i := 2) sc_tree_names.nd rfl (by first | exact Or.inl rfl | exact Or.inr rfl)) (pss_one (ps_set (i := 1) sc_tree_names.nd rfl (by first | exact Or.inl rfl | exact Or.inr rfl) (pe_op op_addU (pv 1) (pe_call (F_tree_names.up (by omega)).ok hr rfl T.g_tree_names.1 T.g_tree_names.2 (F_tree_names.up (by omega)).bn .nil (pass_own rfl rfl rfl rfl) (pa_cons (pv 2) pa_nil))))))
      (pss_one (ps_ret (pv 1)))))), fun ws ka out B F0 Q hC hR hX => ?_⟩)
  obtain ⟨a, rfl, t, rfl, hd, hl, rfl, rfl⟩ := hC
  by_cases hat : ∃ k ns, t = .at k ns
  · obtain ⟨k, ns, rfl⟩ := hat
    refine q_when (b := true) ((et_or (et_test (ev_eqS (ev_ixV (ev_var rfl) ev_int .vt at0) ev_str)) (fun _ => et_test (ev_eqS (ev_ixV (ev_var rfl) ev_int .vt at0) ev_str))).to (by cases k <;> rfl)) (fun _ => ?_) (fun z => by cases z)
    exact g_ret hR (evn_cb (ea1 (ev_ixV (ev_var rfl) ev_int .vt (atI_nat (j := 1) rfl))) (rcn_lst .vt (sqf_stD _ ns))).lst ⟨rfl, rfl⟩
  have h : ∀ k ns, t ≠ .at k ns := fun k ns e => hat ⟨k, ns, e⟩
  have hp := nms_parts h
  have hdp := d_parts (b := false) h
  have hdl := fun p (hp : p ∈ t.parts) => dep_parts hp
  have htg := tag_no h
  have htk := nms_take h
  rw [hdp]
  generalize t.tag = tg at *
  have hpl : t.parts.length ≤ 2 := by cases t <;> exact Nat.le_of_ble_eq_true rfl
  refine q_when (b := false) ((et_or (et_test (ev_eqS (ev_ixV (ev_var rfl) ev_int .vt at0) ev_str)) (fun _ => et_test (ev_eqS (ev_ixV (ev_var rfl) ev_int .vt at0) ev_str))).to htg) (fun z => by cases z) (fun _ => ?_)
  refine q_asg (evn_lst (ds := []) ea_nil (Nat.le_of_ble_eq_true rfl)).lst ?_
  have cut : cutD (D.str tg :: t.parts.map (Tr.d false)) (some 1) none = t.parts.map (Tr.d false) := by
    rw [cut_from (by decide) (by rw [List.length_cons]; omega)]
    rfl
  refine q_forn (C := fun _ => True) (EvI.ws (ws' := t.parts.map fun p => W.val (p.d false)) (ei_seq (ds := t.parts.map (Tr.d false)) ((ev_slT (ev_var rfl) (eo_some ev_int) eo_none).to (by rw [cut])) .vt) (by rw [List.map_map]; rfl)) (fun i ro ka => ∃ v, ro = [some (.val (.tup (.str tg :: t.parts.map (Tr.d false)))), some (.val (.lst (stD ((t.parts.take i).flatMap Tr.nms)))), v] ∧ ka = []) ⟨none, rfl, rfl⟩ (fun _ _ _ _ => trivial) (fun i w ro2 ka2 ta' hw ⟨v, e1, e2⟩ => ?_) (fun ro2 ka2 ta' ⟨v, e1, e2⟩ _ => ?_)
  · subst e1 e2
    rw [List.getElem?_map] at hw
    obtain ⟨p, hpi, rfl⟩ := Option.map_eq_some_iff.mp hw
    have hm := List.mem_of_getElem? hpi
    have grow : (t.parts.take (i + 1)).flatMap Tr.nms = (t.parts.take i).flatMap Tr.nms ++ p.nms := by
      rw [take_succ_some hpi, List.flatMap_append]
      show _ ++ (_ ++ []) = _
      rw [List.append_nil]
    have hz := htk (i + 1)
    rw [grow, List.length_append] at hz
    refine g_asg (w := .val (.lst (stD ((t.parts.take i).flatMap Tr.nms) ++ stD p.nms))) (ev_catL (ev_var rfl) (ev_callP (ea1 (ev_var rfl)) ⟨_, rfl, p, rfl, by have := hdl p hm; omega, by omega, rfl, rfl⟩) (by rw [stD_len, stD_len]; omega)) (g_jp ⟨some (.val (p.d false)), ?_, rfl⟩)
    rw [stD_app, ← grow]
    rfl
  · subst e1 e2
    rw [List.length_map, List.take_length, ← hp]
    exact g_ret hR (ev_var rfl) ⟨rfl, rfl⟩
end
/-- a pattern -/
abbrev PaD (K : PySem.W.Frag) (d : D) : D := .ins (He.ga K "Pattern") [("tree", d)]
def ct_Pattern___init (K : PySem.W.Frag) : Ct := Ct2 fun s a ka out => ∃ p d, s = .val (.adr p) ∧ a = .val d ∧ ka = [(p, .ins (He.ga K "Pattern") [])] ∧ out = Rt .non [(p, .ins (He.ga K "Pattern") [("tree", d)])]
/-- Pattern(tree) -/
theorem ev_pat {K : PySem.W.Frag} {ro : Ro} {ka : Cells} {te : TE} {d : D} {E : XK} (h : EvD K te ro ka (.val d) []) : EvD K (tMake (He.ga K "Pattern") (spC K (ct_Pattern___init K)) [] E (tCons te tNil)) ro ka (.val (PaD K d)) [] :=
  (evn_make (ea1 h) fun a => ⟨_, ⟨_, _, rfl, a, d, rfl, rfl, rfl, rfl⟩, fun _ _ z => z⟩).ins
section
variable {P : Program} {w : World} {K : PySem.W.Frag} {mg : Str → Option Value} {base : Heap}
theorem ok_Pattern___init (T : Tx K mg) : Fn P w K mg base 4 (He.ma K (He.ga K "Pattern") "__init__") ["self", "tree"] (ct_Pattern___init K) := by
  obtain ⟨fd, F⟩ := T.d_Pattern___init
  refine fn_ok F sc_Pattern___init (fun _ _ _ _ _ _ us hl => match us, hl with | [_, _], _ => rfl) ct2_len (fun cdv A outer s H E hr => ⟨_, (pss_one (ps_fld (pv 0) (pv 1) rfl)), fun ws ka out B F0 Q hC hR hX => ?_⟩)
  obtain ⟨s1, a, rfl, p, d, rfl, rfl, rfl, rfl⟩ := hC
  exact g_fld (j := 0) (a := p) (fs := []) (d := d) (ev_var rfl) (ev_var rfl) rfl T.cl_Pattern T.na_Pattern_tree (show 0 < 900 by decide) (g_end hR ⟨rfl, rfl⟩)
end
def ct_Pattern_names (K : PySem.W.Frag) : Ct := Ct1 fun a ka out => ∃ t : Tr, a = .val (PaD K (t.d false)) ∧ t.dep < 8 ∧ t.nms.length < 64 ∧ ka = [] ∧ out = Rt (.tup (stD (inOrd t.nms))) []
section
variable {P : Program} {w : World} {K : PySem.W.Frag} {mg : Str → Option Value} {base : Heap}
theorem ok_Pattern_names (T : Tx K mg) (F_in_order : Fn P w K mg base 4 (He.ga K "in_order") ["names"] (ct_in_order K)) (F_tree_names : Fn P w K mg base 20 (He.ga K "tree_names") ["tree"] (ct_tree_names 8 K)) : Fn P w K mg base 22 (pga K (He.ga K "Pattern") "names") ["self"] (ct_Pattern_names K) := by
  obtain ⟨fd, F⟩ := T.d_Pattern_names
  refine fn_ok F sc_Pattern_names (fun _ _ _ _ _ _ us hl => match us, hl with | [_], _ => rfl) ct1_len (fun cdv A outer s H E hr => ⟨_, (pss_one (ps_ret (pe_call (F_in_order.up (by decide)).ok hr rfl T.g_in_order.1 T.g_in_order.2 (F_in_order.up (by decide)).bn .nil (pass_own rfl rfl rfl rfl) (pa_cons (pe_call (F_tree_names.up (by decide)).ok hr rfl T.g_tree_names.1 T.g_tree_names.2 (F_tree_names.up (by decide)).bn .nil (pass_own rfl rfl rfl rfl) (pa_cons (pe_fld (pv 0) rfl) pa_nil)) pa_nil)))), fun ws ka out B F0 Q hC hR hX => ?_⟩)
  obtain ⟨a, rfl, t, rfl, hd, hl, rfl, rfl⟩ := hC
  exact g_ret hR (ev_callP (ea1 (ev_callP (ea1 (ev_fld (ev_var rfl) .v T.cl_Pattern T.na_Pattern_tree rfl)) ⟨_, rfl, t, rfl, hd, by omega, rfl, rfl⟩)) ⟨_, rfl, _, _, t.nms, .vl, hl, rfl⟩) ⟨rfl, rfl⟩
end
def strOf : D → Str
  | .str s => s
  | _ => ""
theorem all_nm : ∀ {ds : List D}, ds.all isNmD = true → ds = stD (ds.map strOf)
  | [], _ => rfl
  | d :: ds, h => by
    rw [List.all_cons, Bool.and_eq_true] at h
    have ih := all_nm h.2
    cases d with
    | str s => exact congrArg (D.str s :: ·) ih
    | _ => cases h.1
def ctB (t : Tr) : D → Bool
  | .tup ds => ds.all isNmD && accM (mcT t 0) (ds.map strOf)
  | .lst ds => ds.all isNmD && accM (mcT t 0) (ds.map strOf)
  | _ => false
theorem mc_fi_lt (t : Tr) : ∀ a ∈ (mcT t 0).fi, a < (mcT t 0).at_.length := fun a h => by
  have := ((mcT_r t 0).fi a h).2
  omega
def ct_Pattern___contains (K : PySem.W.Frag) : Ct := Ct2 fun s a ka out => ∃ (t : Tr) (d : D), s = .val (PaD K (t.d false)) ∧ a = .val d ∧ t.dep < 8 ∧ t.sm ∧ anOk d ∧ ka = [] ∧ out = Rt (.bl (ctB t d)) []
section
variable {P : Program} {w : World} {K : PySem.W.Frag} {mg : Str → Option Value} {base : Heap}
theorem ok_Pattern___contains (T : Tx K mg) (F_are_names : Fn P w K mg base 6 (He.ga K "are_names") ["things"] (ct_are_names K)) (F_made_machine : Fn P w K mg base 24 (He.ga K "made_machine") ["tree"] (ct_made_machine K)) (F_accepts : Fn P w K mg base 8 (He.ga K "accepts") ["machine", "lanes"] (ct_accepts K)) : Fn P w K mg base 26 (He.ma K (He.ga K "Pattern") "__contains__") ["self", "lanes"] (ct_Pattern___contains K) := by
  obtain ⟨fd, F⟩ := T.d_Pattern___contains
  refine fn_ok F sc_Pattern___contains (fun _ _ _ _ _ _ us hl => match us, hl with | [_, _], _ => rfl) ct2_len (fun cdv A outer s H E hr => ⟨_, (pss_one (ps_ret (pe_and (pe_call (F_are_names.up (by decide)).ok hr rfl T.g_are_names.1 T.g_are_names.2 (F_are_names.up (by decide)).bn .nil (pass_own rfl rfl rfl rfl) (pa_cons (pv 1) pa_nil)) (pe_one (pe_call (F_accepts.up (by decide)).ok hr rfl T.g_accepts.1 T.g_accepts.2 (F_accepts.up (by decide)).bn .nil (pass_own rfl rfl rfl rfl) (pa_cons (pe_call (F_made_machine.up (by decide)).ok hr rfl T.g_made_machine.1 T.g_made_machine.2 (F_made_machine.up (by decide)).bn .nil (pass_own rfl rfl rfl rfl) (pa_cons (pe_fld (pv 0) rfl) pa_nil)) (pa_cons (pv 1) pa_nil))))))), fun ws ka out B F0 Q hC hR hX => ?_⟩)
  obtain ⟨s1, a, rfl, t, d, rfl, rfl, hd, hs, ho, rfl, rfl⟩ := hC
  cases d with
  | non => exact g_ret hR (ev_andV0 ((ev_callP (ea1 (ev_var rfl)) ⟨_, rfl, _, rfl, ho, rfl, rfl⟩).to (w' := .val (.bl false)) (congrArg (fun z => W.val (.bl z)) (rfl)))) ⟨congrArg (fun z => Out.ret (.bl z)) (rfl), rfl⟩
  | str s => exact g_ret hR (ev_andV0 ((ev_callP (ea1 (ev_var rfl)) ⟨_, rfl, _, rfl, ho, rfl, rfl⟩).to (w' := .val (.bl false)) (congrArg (fun z => W.val (.bl z)) (rfl)))) ⟨congrArg (fun z => Out.ret (.bl z)) (rfl), rfl⟩
  | int s => exact g_ret hR (ev_andV0 ((ev_callP (ea1 (ev_var rfl)) ⟨_, rfl, _, rfl, ho, rfl, rfl⟩).to (w' := .val (.bl false)) (congrArg (fun z => W.val (.bl z)) (rfl)))) ⟨congrArg (fun z => Out.ret (.bl z)) (rfl), rfl⟩
  | dic s => exact g_ret hR (ev_andV0 ((ev_callP (ea1 (ev_var rfl)) ⟨_, rfl, _, rfl, ho, rfl, rfl⟩).to (w' := .val (.bl false)) (congrArg (fun z => W.val (.bl z)) (rfl)))) ⟨congrArg (fun z => Out.ret (.bl z)) (rfl), rfl⟩
  | tup ds =>
    cases ha : ds.all isNmD with
    | false => exact g_ret hR (ev_andV0 ((ev_callP (ea1 (ev_var rfl)) ⟨_, rfl, _, rfl, ho, rfl, rfl⟩).to (w' := .val (.bl false)) (congrArg (fun z => W.val (.bl z)) (ha)))) ⟨congrArg (fun z => Out.ret (.bl z)) (show false = (ds.all isNmD && _) by rw [ha]; rfl), rfl⟩
    | true => exact g_ret hR (ev_andV1 ((ev_callP (ea1 (ev_var rfl)) ⟨_, rfl, _, rfl, ho, rfl, rfl⟩).to (w' := .val (.bl true)) (congrArg (fun z => W.val (.bl z)) ha)) (ev_callP (d := .bl (accM (mcT t 0) (ds.map strOf))) (ea2 (ev_callP (ea1 (ev_fld (ev_var rfl) .v T.cl_Pattern T.na_Pattern_tree rfl)) ⟨_, rfl, t, rfl, hd, hs, rfl, rfl⟩) (ev_var rfl)) ⟨_, _, rfl, mcT t 0, ds.map strOf, rfl, .inl (congrArg (fun z => W.val (.tup z)) (all_nm ha)), hs.fits 0, mc_fi_lt t, by rw [List.length_map]; exact ho.1, rfl, rfl⟩)) ⟨by show Out.ret _ = Out.ret (.bl (ds.all isNmD && _)); rw [ha]; rfl, rfl⟩
  | lst ds =>
    cases ha : ds.all isNmD with
    | false => exact g_ret hR (ev_andV0 ((ev_callP (ea1 (ev_var rfl)) ⟨_, rfl, _, rfl, ho, rfl, rfl⟩).to (w' := .val (.bl false)) (congrArg (fun z => W.val (.bl z)) (ha)))) ⟨congrArg (fun z => Out.ret (.bl z)) (show false = (ds.all isNmD && _) by rw [ha]; rfl), rfl⟩
    | true => exact g_ret hR (ev_andV1 ((ev_callP (ea1 (ev_var rfl)) ⟨_, rfl, _, rfl, ho, rfl, rfl⟩).to (w' := .val (.bl true)) (congrArg (fun z => W.val (.bl z)) ha)) (ev_callP (d := .bl (accM (mcT t 0) (ds.map strOf))) (ea2 (ev_callP (ea1 (ev_fld (ev_var rfl) .v T.cl_Pattern T.na_Pattern_tree rfl)) ⟨_, rfl, t, rfl, hd, hs, rfl, rfl⟩) (ev_var rfl)) ⟨_, _, rfl, mcT t 0, ds.map strOf, rfl, .inr (congrArg (fun z => W.val (.lst z)) (all_nm ha)), hs.fits 0, mc_fi_lt t, by rw [List.length_map]; exact ho.1, rfl, rfl⟩)) ⟨by show Out.ret _ = Out.ret (.bl (ds.all isNmD && _)); rw [ha]; rfl, rfl⟩
  | bl _ => exact ho.elim
  | dit _ => exact ho.elim
  | ins _ _ => exact ho.elim
  | ty _ => exact ho.elim
  | adr _ => exact ho.elim
end
def ct_Pattern___bool (K : PySem.W.Frag) : Ct := Ct1 fun a ka out => ∃ t : Tr, a = .val (PaD K (t.d false)) ∧ t.dep < 8 ∧ t.sm ∧ ka = [] ∧ out = Rt (.bl (!(mcT t 0).op)) []
section
variable {P : Program} {w : World} {K : PySem.W.Frag} {mg : Str → Option Value} {base : Heap}
theorem ok_Pattern___bool (T : Tx K mg) (F_made_machine : Fn P w K mg base 24 (He.ga K "made_machine") ["tree"] (ct_made_machine K)) : Fn P w K mg base 26 (He.ma K (He.ga K "Pattern") "__bool__") ["self"] (ct_Pattern___bool K) := by
  obtain ⟨fd, F⟩ := T.d_Pattern___bool
  refine fn_ok F sc_Pattern___bool (fun _ _ _ _ _ _ us hl => match us, hl with | [_], _ => rfl) ct1_len (fun cdv A outer s H E hr => ⟨_, (pss_one (ps_ret (pe_not (pe_fld (pe_call (F_made_machine.up (by decide)).ok hr rfl T.g_made_machine.1 T.g_made_machine.2 (F_made_machine.up (by decide)).bn .nil (pass_own rfl rfl rfl rfl) (pa_cons (pe_fld (pv 0) rfl) pa_nil)) rfl)))), fun ws ka out B F0 Q hC hR hX => ?_⟩)
  obtain ⟨a, rfl, t, rfl, hd, hs, rfl, rfl⟩ := hC
  exact g_ret hR (ev_notV (ev_fld (ev_callP (ea1 (ev_fld (ev_var rfl) .v T.cl_Pattern T.na_Pattern_tree rfl)) ⟨_, rfl, t, rfl, hd, hs, rfl, rfl⟩) .v T.cl_Machine T.na_Machine_is_optional rfl)) ⟨rfl, rfl⟩
end
def ct_Pattern___add (K : PySem.W.Frag) : Ct := Ct2 fun a b ka out => ∃ t u : Tr, a = .val (PaD K (t.d false)) ∧ b = .val (PaD K (u.d false)) ∧ ka = [] ∧ out = Rt (PaD K ((Tr.join t u).d false)) []
section
variable {P : Program} {w : World} {K : PySem.W.Frag} {mg : Str → Option Value} {base : Heap}
theorem ok_Pattern___add (T : Tx K mg) (F_joined : Fn P w K mg base 4 (He.ga K "joined") ["kind", "one", "two"] (ct_joined K)) (F_Pattern___init : Fn P w K mg base 4 (He.ma K (He.ga K "Pattern") "__init__") ["self", "tree"] (ct_Pattern___init K)) : Fn P w K mg base 6 (He.ma K (He.ga K "Pattern") "__add__") ["self", "other"] (ct_Pattern___add K) := by
  obtain ⟨fd, F⟩ := T.d_Pattern___add
  refine fn_ok F sc_Pattern___add (fun _ _ _ _ _ _ us hl => match us, hl with | [_, _], _ => rfl) ct2_len (fun cdv A outer s H E hr => ⟨_, (pss_cons (ps_if (pt_not (pt_val (pe_callB call_isi rfl T.n_isinstance (by decide +kernel) (pa_cons (pv 1) (pa_cons (pe_glob (v := .ref (He.ga K "Pattern")) rfl T.g_Pattern.1 rfl) pa_nil)))))
      (pss_one (ps_ret pe_no))
      pss_nil)
      (pss_one (ps_ret (pe_make T.mk_Pattern (F_Pattern___init.up (by decide)).ok hr rfl T.g_Pattern.1 (F_Pattern___init.up (by decide)).bn .nil (pass_own rfl rfl rfl rfl) (pa_cons (pe_call (F_joined.up (by decide)).ok hr rfl T.g_joined.1 T.g_joined.2 (F_joined.up (by decide)).bn .nil (pass_own rfl rfl rfl rfl) (pa_cons pe_str (pa_cons (pe_fld (pv 0) rfl) (pa_cons (pe_fld (pv 1) rfl) pa_nil)))) pa_nil))))), fun ws ka out B F0 Q hC hR hX => ?_⟩)
  obtain ⟨a, b, rfl, t, u, rfl, rfl, rfl, rfl⟩ := hC
  refine q_when (b := false) ((et_not (et_B (ev_isiC (ev_var rfl) (.io .v T.ci_Pattern) T.ko_Pattern_Pattern))).to rfl) (fun z => by cases z) (fun _ => ?_)
  exact g_ret hR (ev_pat (ev_callP (ea3 ev_str (ev_fld (ev_var rfl) .v T.cl_Pattern T.na_Pattern_tree rfl) (ev_fld (ev_var rfl) .v T.cl_Pattern T.na_Pattern_tree rfl)) ⟨_, _, _, rfl, _, _, _, rfl, rfl, rfl, rfl, rfl⟩)) ⟨rfl, rfl⟩
end
def ct_Pattern___or (K : PySem.W.Frag) : Ct := Ct2 fun a b ka out => ∃ t u : Tr, a = .val (PaD K (t.d false)) ∧ b = .val (PaD K (u.d false)) ∧ ka = [] ∧ out = Rt (PaD K ((Tr.either t u).d false)) []
section
variable {P : Program} {w : World} {K : PySem.W.Frag} {mg : Str → Option Value} {base : Heap}
theorem ok_Pattern___or (T : Tx K mg) (F_joined : Fn P w K mg base 4 (He.ga K "joined") ["kind", "one", "two"] (ct_joined K)) (F_Pattern___init : Fn P w K mg base 4 (He.ma K (He.ga K "Pattern") "__init__") ["self", "tree"] (ct_Pattern___init K)) : Fn P w K mg base 6 (He.ma K (He.ga K "Pattern") "__or__") ["self", "other"] (ct_Pattern___or K) := by
  obtain ⟨fd, F⟩ := T.d_Pattern___or
  refine fn_ok F sc_Pattern___or (fun _ _ _ _ _ _ us hl => match us, hl with | [_, _], _ => rfl) ct2_len (fun cdv A outer s H E hr => ⟨_, (pss_cons (ps_if (pt_not (pt_val (pe_callB call_isi rfl T.n_isinstance (by decide +kernel) (pa_cons (pv 1) (pa_cons (pe_glob (v := .ref (He.ga K "Pattern")) rfl T.g_Pattern.1 rfl) pa_nil)))))
      (pss_one (ps_ret pe_no))
      pss_nil)
      (pss_one (ps_ret (pe_make T.mk_Pattern (F_Pattern___init.up (by decide)).ok hr rfl T.g_Pattern.1 (F_Pattern___init.up (by decide)).bn .nil (pass_own rfl rfl rfl rfl) (pa_cons (pe_call (F_joined.up (by decide)).ok hr rfl T.g_joined.1 T.g_joined.2 (F_joined.up (by decide)).bn .nil (pass_own rfl rfl rfl rfl) (pa_cons pe_str (pa_cons (pe_fld (pv 0) rfl) (pa_cons (pe_fld (pv 1) rfl) pa_nil)))) pa_nil))))), fun ws ka out B F0 Q hC hR hX => ?_⟩)
  obtain ⟨a, b, rfl, t, u, rfl, rfl, rfl, rfl⟩ := hC
  refine q_when (b := false) ((et_not (et_B (ev_isiC (ev_var rfl) (.io .v T.ci_Pattern) T.ko_Pattern_Pattern))).to rfl) (fun z => by cases z) (fun _ => ?_)
  exact g_ret hR (ev_pat (ev_callP (ea3 ev_str (ev_fld (ev_var rfl) .v T.cl_Pattern T.na_Pattern_tree rfl) (ev_fld (ev_var rfl) .v T.cl_Pattern T.na_Pattern_tree rfl)) ⟨_, _, _, rfl, _, _, _, rfl, rfl, rfl, rfl, rfl⟩)) ⟨rfl, rfl⟩
end
def pmOut (K : PySem.W.Frag) (t : Tr) : D → Oc
  | .int i => if 1 ≤ i then Rt (PaD K ((powT t (i.toNat - 1)).d false)) [] else Xt (He.ga K "BadNumber") [("value", .int i)] []
  | d => Xt (He.ga K "BadNumber") [("value", d)] []
def isPos : D → Bool
  | .int i => decide (1 ≤ i)
  | _ => false
theorem pm_bad {K : PySem.W.Frag} {t : Tr} {d : D} (h : isPos d = false) : pmOut K t d = Xt (He.ga K "BadNumber") [("value", d)] [] := by
  cases d with
  | int i =>
    have : ¬ 1 ≤ i := of_decide_eq_false h
    show (if 1 ≤ i then _ else _) = _
    rw [if_neg this]
  | _ => rfl
def ct_Pattern___mul (K : PySem.W.Frag) : Ct := Ct2 fun s a ka out => ∃ (t : Tr) (d : D), s = .val (PaD K (t.d false)) ∧ a = .val d ∧ tyD d ≠ none ∧ (∀ i, d = .int i → i ≤ 1000) ∧ ka = [] ∧ out = pmOut K t d
section
variable {P : Program} {w : World} {K : PySem.W.Frag} {mg : Str → Option Value} {base : Heap}
theorem ok_Pattern___mul (T : Tx K mg) (F_is_count : Fn P w K mg base 6 (He.ga K "is_count") ["value"] (ct_is_count K)) (F_joined : Fn P w K mg base 4 (He.ga K "joined") ["kind", "one", "two"] (ct_joined K)) (F_Pattern___init : Fn P w K mg base 4 (He.ma K (He.ga K "Pattern") "__init__") ["self", "tree"] (ct_Pattern___init K)) (Z_BadNumber : Xn P w K mg base (He.ga K "BadNumber") "value") : Fn P w K mg base 8 (He.ma K (He.ga K "Pattern") "__mul__") ["self", "number"] (ct_Pattern___mul K) := by
  obtain ⟨fd, F⟩ := T.d_Pattern___mul
  refine fn_ok F sc_Pattern___mul (fun _ _ _ _ _ _ us hl => match us, hl with | [_, _], _ => rfl) ct2_len (fun cdv A outer s H E hr => ⟨_, (pss_cons (ps_if (PW.pt (pw_or (pt_not (pt_val (pe_call (F_is_count.up (by decide)).ok hr rfl T.g_is_count.1 T.g_is_count.2 (F_is_count.up (by decide)).bn .nil (pass_own rfl rfl rfl rfl) (pa_cons (pv 1) pa_nil)))) (pw_or1 (pt_cmpR (op_eqP (by have := (hr).units; exact this)) (pv 1) pe_int (nomark _)))))
      (pss_one (ps_raise rfl (takes_of rfl rfl rfl rfl) (pmk_oex Z_BadNumber.xc.oex Z_BadNumber.all.1 Z_BadNumber.all.2.1 Z_BadNumber.all.2.2.1 (hr.mono (by decide)) Z_BadNumber.all.2.2.2 .nil passes_no rfl T.g_BadNumber.1 (pa_cons (pv 1) pa_nil))))
      pss_nil)
      (pss_cons (ps_set (i := 2) sc_Pattern___mul.nd rfl (by first | exact Or.inl rfl | exact Or.inr rfl) (pe_fld (pv 0) rfl))
      (pss_cons (ps_for (passes_of rfl) rfl (pi_range1 rfl T.n_range (pa_cons (pe_op op_sub (pv 1) pe_int) pa_nil)) (pg_name (i := 3) sc_Pattern___mul.nd rfl (by first | exact Or.inl rfl | exact Or.inr rfl)) (pss_one (ps_set (i := 2) sc_Pattern___mul.nd rfl (by first | exact Or.inl rfl | exact Or.inr rfl) (pe_call (F_joined.up (by decide)).ok hr rfl T.g_joined.1 T.g_joined.2 (F_joined.up (by decide)).bn .nil (pass_own rfl rfl rfl rfl) (pa_cons pe_str (pa_cons (pv 2) (pa_cons (pe_fld (pv 0) rfl) pa_nil)))))))
      (pss_one (ps_ret (pe_make T.mk_Pattern (F_Pattern___init.up (by decide)).ok hr rfl T.g_Pattern.1 (F_Pattern___init.up (by decide)).bn .nil (pass_own rfl rfl rfl rfl) (pa_cons (pv 2) pa_nil))))))), fun ws ka out B F0 Q hC hR hX => ?_⟩)
  obtain ⟨s1, a, rfl, t, d, rfl, rfl, hd, hi, rfl, rfl⟩ := hC
  cases hp : isPos d with
  | false =>
    have ht : isCt d = false ∨ d = .int 0 := by
      cases d with
      | int i =>
        have : ¬ 1 ≤ i := of_decide_eq_false hp
        by_cases h0 : 0 ≤ i
        · exact .inr (by rw [show i = 0 by omega])
        · exact .inl (decide_eq_false h0)
      | _ => exact .inl rfl
    have ex : pmOut K t d = Xt (He.ga K "BadNumber") [("value", d)] [] := pm_bad hp
    rcases ht with ht | rfl
    · refine q_when (et_or1 ((et_not (et_B (ev_callP (ea1 (ev_var rfl)) ⟨_, rfl, d, rfl, hd, rfl, rfl⟩))).to (by rw [ht]; rfl))) (fun _ => g_raise1 hX (ea1 (ev_var rfl)) Z_BadNumber.xc.oex Z_BadNumber.no ?_) (fun z => by cases z)
      rw [ex]
      exact ⟨rfl, rfl⟩
    · refine q_when (et_or0 ((et_not (et_B (ev_callP (ea1 (ev_var rfl)) ⟨_, rfl, .int 0, rfl, hd, rfl, rfl⟩))).to rfl) ((et_test (ev_eqI (ev_var rfl) ev_int)).to (b := true) rfl)) (fun _ => g_raise1 hX (ea1 (ev_var rfl)) Z_BadNumber.xc.oex Z_BadNumber.no ?_) (fun z => by cases z)
      rw [ex]
      exact ⟨rfl, rfl⟩
  | true =>
    cases d with
    | int i =>
      have h1 : 1 ≤ i := of_decide_eq_true hp
      have h2 := hi i rfl
      refine q_when (et_or0 ((et_not (et_B (ev_callP (ea1 (ev_var rfl)) ⟨_, rfl, .int i, rfl, hd, rfl, rfl⟩))).to (b := false) ?_) ((et_test (ev_eqI (ev_var rfl) ev_int)).to (b := false) (beq_eq_false_iff_ne.mpr (by omega)))) (fun z => by cases z) (fun _ => ?_)
      · show (!decide (0 ≤ i)) = false
        rw [decide_eq_true (by omega)]
        rfl
      refine q_asg (ev_fld (ev_var rfl) .v T.cl_Pattern T.na_Pattern_tree rfl) ?_
      refine q_forn (ei_range1 (ea1 (ev_subI (ev_var rfl) ev_int)) (by omega) (by omega)) (fun j ro ka => ∃ v, ro = [some (.val (PaD K (t.d false))), some (.val (.int i)), some (.val ((powT t j).d false)), v] ∧ ka = []) ⟨none, rfl, rfl⟩ (fun _ _ _ _ => trivial) (fun j w ro2 ka2 ta' hw ⟨v, e1, e2⟩ => ?_) (fun ro2 ka2 ta' ⟨v, e1, e2⟩ _ => ?_)
      · subst e1 e2
        exact g_asg (ev_callP (ea3 ev_str (ev_var rfl) (ev_fld (ev_var rfl) .v T.cl_Pattern T.na_Pattern_tree rfl)) ⟨_, _, _, rfl, _, _, _, rfl, rfl, rfl, rfl, rfl⟩) (g_jp ⟨_, rfl, rfl⟩)
      · subst e1 e2
        rw [List.length_map, List.length_range]
        refine g_ret hR (ev_pat (ev_var rfl)) ?_
        have e : pmOut K t (.int i) = Rt (PaD K ((powT t (i.toNat - 1)).d false)) [] := if_pos h1
        rw [e]
        exact ⟨by rw [show (i - 1).toNat = i.toNat - 1 by omega], rfl⟩
    | _ => cases hp
end
def ct_Pattern___neg (K : PySem.W.Frag) : Ct := Ct1 fun a ka out => ∃ t : Tr, a = .val (PaD K (t.d false)) ∧ t.dep < 8 ∧ ka = [] ∧ out = Rt (PaD K ((rvT t).d false)) []
section
variable {P : Program} {w : World} {K : PySem.W.Frag} {mg : Str → Option Value} {base : Heap}
theorem ok_Pattern___neg (T : Tx K mg) (F_opposite : Fn P w K mg base 20 (He.ga K "opposite") ["tree"] (ct_opposite 8 K)) (F_Pattern___init : Fn P w K mg base 4 (He.ma K (He.ga K "Pattern") "__init__") ["self", "tree"] (ct_Pattern___init K)) : Fn P w K mg base 22 (He.ma K (He.ga K "Pattern") "__neg__") ["self"] (ct_Pattern___neg K) := by
  obtain ⟨fd, F⟩ := T.d_Pattern___neg
  refine fn_ok F sc_Pattern___neg (fun _ _ _ _ _ _ us hl => match us, hl with | [_], _ => rfl) ct1_len (fun cdv A outer s H E hr => ⟨_, (pss_one (ps_ret (pe_make T.mk_Pattern (F_Pattern___init.up (by decide)).ok hr rfl T.g_Pattern.1 (F_Pattern___init.up (by decide)).bn .nil (pass_own rfl rfl rfl rfl) (pa_cons (pe_call (F_opposite.up (by decide)).ok hr rfl T.g_opposite.1 T.g_opposite.2 (F_opposite.up (by decide)).bn .nil (pass_own rfl rfl rfl rfl) (pa_cons (pe_fld (pv 0) rfl) pa_nil)) pa_nil)))), fun ws ka out B F0 Q hC hR hX => ?_⟩)
  obtain ⟨a, rfl, t, rfl, hd, rfl, rfl⟩ := hC
  exact g_ret hR (ev_pat (ev_callP (ea1 (ev_fld (ev_var rfl) .v T.cl_Pattern T.na_Pattern_tree rfl)) ⟨_, rfl, t, rfl, hd, rfl, rfl⟩)) ⟨rfl, rfl⟩
end
theorem names_ok {ns : List Str} (h : ∀ n ∈ ns, isNm n = true) : (∀ d ∈ stD ns, nmOk d) ∧ ∀ d ∈ stD ns, isNmD d = true := by
  refine ⟨fun d hd => ?_, fun d hd => ?_⟩
  · obtain ⟨s, hs, rfl⟩ := List.mem_map.mp hd
    exact Nat.le_trans (isNm_len (h s hs)) (by decide)
  · obtain ⟨s, hs, rfl⟩ := List.mem_map.mp hd
    exact h s hs
/-- names in a row, none missing -/
def ct_any_of (K : PySem.W.Frag) : Ct := Ct1 fun a ka out => ∃ ns : List Str, a = .val (.tup (stD ns)) ∧ ns ≠ [] ∧ (∀ n ∈ ns, isNm n = true) ∧ ka = [] ∧ out = Rt (PaD K ((Tr.at true ns).d false)) []
section
variable {P : Program} {w : World} {K : PySem.W.Frag} {mg : Str → Option Value} {base : Heap}
theorem ok_any_of (T : Tx K mg) (F_check_lanes : Fn P w K mg base 6 (He.ga K "check_lanes") ["lanes"] (ct_check_lanes K)) (F_Pattern___init : Fn P w K mg base 4 (He.ma K (He.ga K "Pattern") "__init__") ["self", "tree"] (ct_Pattern___init K)) : FnV P w K mg base 8 (He.ga K "any_of") (ct_any_of K) := by
  obtain ⟨fd, F⟩ := T.d_any_of
  refine fn_okV F sc_any_of (fun _ _ _ _ _ _ rest => by cases rest <;> rfl) ct1_len (fun cdv A outer s H E hr => ⟨_, (pss_cons (ps_expr (pe_call (F_check_lanes.up (by decide)).ok hr rfl T.g_check_lanes.1 T.g_check_lanes.2 (F_check_lanes.up (by decide)).bn .nil (pass_own rfl rfl rfl rfl) (pa_cons (pv 0) pa_nil)))
      (pss_one (ps_ret (pe_make T.mk_Pattern (F_Pattern___init.up (by decide)).ok hr rfl T.g_Pattern.1 (F_Pattern___init.up (by decide)).bn .nil (pass_own rfl rfl rfl rfl) (pa_cons (pe_tup (pa_cons pe_str (pa_cons (pv 0) pa_nil))) pa_nil))))), fun ws ka out B F0 Q hC hR hX => ?_⟩)
  obtain ⟨a, rfl, ns, rfl, hne, hn, rfl, rfl⟩ := hC
  have nn := names_ok hn
  refine q_drop (ev_callA (k2 := []) (d := .non) (ea1 (ev_var rfl)) ⟨_, rfl, true, stD ns, false, .vt, sqf_stD _ ns, nn.1, (ck_ok (fun z => hne (List.map_eq_nil_iff.mp z)) nn.2).symm⟩) ?_
  exact g_ret hR (ev_pat (ev_tup (ds := [.str "any", .tup (stD ns)]) (ea2 ev_str (ev_var rfl)) (Nat.le_of_ble_eq_true rfl))) ⟨rfl, rfl⟩
end
def ct_none_of (K : PySem.W.Frag) : Ct := Ct1 fun a ka out => ∃ ns : List Str, a = .val (.tup (stD ns)) ∧ (∀ n ∈ ns, isNm n = true) ∧ ka = [] ∧ out = Rt (PaD K ((Tr.at false ns).d false)) []
section
variable {P : Program} {w : World} {K : PySem.W.Frag} {mg : Str → Option Value} {base : Heap}
theorem ok_none_of (T : Tx K mg) (F_check_lanes : Fn P w K mg base 6 (He.ga K "check_lanes") ["lanes"] (ct_check_lanes K)) (F_Pattern___init : Fn P w K mg base 4 (He.ma K (He.ga K "Pattern") "__init__") ["self", "tree"] (ct_Pattern___init K)) : FnV P w K mg base 8 (He.ga K "none_of") (ct_none_of K) := by
  obtain ⟨fd, F⟩ := T.d_none_of
  refine fn_okV F sc_none_of (fun _ _ _ _ _ _ rest => by cases rest <;> rfl) ct1_len (fun cdv A outer s H E hr => ⟨_, (pss_cons (ps_if (pt_cmpR op_gt (pe_callB call_lenU rfl T.n_len (by decide +kernel) (pa_cons (pv 0) pa_nil)) pe_int (nomark _))
      (pss_one (ps_expr (pe_call (F_check_lanes.up (by decide)).ok hr rfl T.g_check_lanes.1 T.g_check_lanes.2 (F_check_lanes.up (by decide)).bn .nil (pass_own rfl rfl rfl rfl) (pa_cons (pv 0) pa_nil))))
      pss_nil)
      (pss_one (ps_ret (pe_make T.mk_Pattern (F_Pattern___init.up (by decide)).ok hr rfl T.g_Pattern.1 (F_Pattern___init.up (by decide)).bn .nil (pass_own rfl rfl rfl rfl) (pa_cons (pe_tup (pa_cons pe_str (pa_cons (pv 0) pa_nil))) pa_nil))))), fun ws ka out B F0 Q hC hR hX => ?_⟩)
  obtain ⟨a, rfl, ns, rfl, hn, rfl, rfl⟩ := hC
  have nn := names_ok hn
  cases hns : ns with
  | nil =>
    subst hns
    refine q_when ((et_test (ev_gt (ev_len (ev_var rfl) .vt) ev_int)).to (b := false) rfl) (fun z => by cases z) (fun _ => ?_)
    exact g_ret hR (ev_pat (ev_tup (ds := [.str "none", .tup (stD [])]) (ea2 ev_str (ev_var rfl)) (Nat.le_of_ble_eq_true rfl))) ⟨rfl, rfl⟩
  | cons x xs =>
    rw [← hns]
    have hne : ns ≠ [] := by rw [hns]; exact List.cons_ne_nil _ _
    refine q_when ((et_test (ev_gt (ev_len (ev_var rfl) .vt) ev_int)).to (b := true) ?_) (fun _ => ?_) (fun z => by cases z)
    · rw [stD_len, hns, List.length_cons]
      exact decide_eq_true (by omega)
    · refine g_drop (ev_callA (k2 := []) (d := .non) (ea1 (ev_var rfl)) ⟨_, rfl, true, stD ns, false, .vt, sqf_stD _ ns, nn.1, (ck_ok (fun z => hne (List.map_eq_nil_iff.mp z)) nn.2).symm⟩) ?_
      exact g_ret hR (ev_pat (ev_tup (ds := [.str "none", .tup (stD ns)]) (ea2 ev_str (ev_var rfl)) (Nat.le_of_ble_eq_true rfl))) ⟨rfl, rfl⟩
end
def ct_word_pattern (K : PySem.W.Frag) : Ct := Ct1 fun a ka out => ∃ (x : Str) (xs : List Str), a = .val (.tup (stD (x :: xs))) ∧ xs.length ≤ 1000 ∧ ka = [] ∧ out = Rt (PaD K ((wdT x xs).d false)) []
section
variable {P : Program} {w : World} {K : PySem.W.Frag} {mg : Str → Option Value} {base : Heap}
theorem ok_word_pattern (T : Tx K mg) (F_Pattern___init : Fn P w K mg base 4 (He.ma K (He.ga K "Pattern") "__init__") ["self", "tree"] (ct_Pattern___init K)) : Fn P w K mg base 6 (He.ga K "word_pattern") ["names"] (ct_word_pattern K) := by
  obtain ⟨fd, F⟩ := T.d_word_pattern
  refine fn_ok F sc_word_pattern (fun _ _ _ _ _ _ us hl => match us, hl with | [_], _ => rfl) ct1_len (fun cdv A outer s H E hr => ⟨_, (pss_cons (ps_set (i := 1) sc_word_pattern.nd rfl (by first | exact Or.inl rfl | exact Or.inr rfl) (pe_tup (pa_cons pe_str (pa_cons (pe_tup (pa_cons (pe_ix ix_seq (pv 0) pe_int fun _ _ => rfl) pa_nil)) pa_nil))))
      (pss_cons (ps_for (passes_of rfl) rfl (pi_seq (pe_slice sl_U (pv 0) (po_some pe_int) po_none)) (pg_name (i := 2) sc_word_pattern.nd rfl (by first | exact Or.inl rfl | exact Or.inr rfl)) (pss_one (ps_set (i := 1) sc_word_pattern.nd rfl (by first | exact Or.inl rfl | exact Or.inr rfl) (pe_tup (pa_cons pe_str (pa_cons (pv 1) (pa_cons (pe_tup (pa_cons pe_str (pa_cons (pe_tup (pa_cons (pv 2) pa_nil)) pa_nil))) pa_nil)))))))
      (pss_one (ps_ret (pe_make T.mk_Pattern (F_Pattern___init.up (by decide)).ok hr rfl T.g_Pattern.1 (F_Pattern___init.up (by decide)).bn .nil (pass_own rfl rfl rfl rfl) (pa_cons (pv 1) pa_nil)))))), fun ws ka out B F0 Q hC hR hX => ?_⟩)
  obtain ⟨a, rfl, x, xs, rfl, hl, rfl, rfl⟩ := hC
  have cut : cutD (stD (x :: xs)) (some 1) none = stD xs := by
    rw [cut_from (by decide) (by rw [stD_len, List.length_cons]; omega)]
    rfl
  refine q_asg (ev_tup (ds := [.str "any", .tup [.str x]]) (ea2 ev_str (ev_tup (ds := [.str x]) (ea1 (ev_ixV (ev_var rfl) ev_int .vt at0)) (Nat.le_of_ble_eq_true rfl))) (Nat.le_of_ble_eq_true rfl)) ?_
  refine q_forn (C := fun _ => True) (EvI.ws (ws' := xs.map fun s : Str => W.val (.str s)) (ei_seq (ds := stD xs) ((ev_slT (ev_var rfl) (eo_some ev_int) eo_none).to (by rw [cut])) .vt) (by unfold stD; rw [List.map_map]; rfl)) (fun i ro ka => ∃ v, ro = [some (.val (.tup (stD (x :: xs)))), some (.val ((wdT x (xs.take i)).d false)), v] ∧ ka = []) ⟨none, rfl, rfl⟩ (fun _ _ _ _ => trivial) (fun i w ro2 ka2 ta' hw ⟨v, e1, e2⟩ => ?_) (fun ro2 ka2 ta' ⟨v, e1, e2⟩ _ => ?_)
  · subst e1 e2
    rw [List.getElem?_map] at hw
    obtain ⟨y, hy, rfl⟩ := Option.map_eq_some_iff.mp hw
    refine g_asg (w := .val ((Tr.join (wdT x (xs.take i)) (.at true [y])).d false)) (ev_tup (ds := [.str "join", (wdT x (xs.take i)).d false, .tup [.str "any", .tup [.str y]]]) (ea3 ev_str (ev_var rfl) (ev_tup (ds := [.str "any", .tup [.str y]]) (ea2 ev_str (ev_tup (ds := [.str y]) (ea1 (ev_var rfl)) (Nat.le_of_ble_eq_true rfl))) (Nat.le_of_ble_eq_true rfl))) (Nat.le_of_ble_eq_true rfl)) (g_jp ⟨some (.val (.str y)), ?_, rfl⟩)
    rw [take_succ_some hy, wdT_snoc]
    rfl
  · subst e1 e2
    rw [List.length_map, List.take_length]
    exact g_ret hR (ev_pat (ev_var rfl)) ⟨rfl, rfl⟩
end
def ct_walk_of (K : PySem.W.Frag) : Ct := Ct1 fun a ka out => ∃ (x : Str) (xs : List Str), a = .val (.tup (stD (x :: xs))) ∧ xs.length ≤ 1000 ∧ (∀ y ∈ x :: xs, isNm y = true) ∧ ka = [] ∧ out = Rt (PaD K ((wdT x xs).d false)) []
section
variable {P : Program} {w : World} {K : PySem.W.Frag} {mg : Str → Option Value} {base : Heap}
theorem ok_walk_of (T : Tx K mg) (F_check_lanes : Fn P w K mg base 6 (He.ga K "check_lanes") ["lanes"] (ct_check_lanes K)) (F_word_pattern : Fn P w K mg base 6 (He.ga K "word_pattern") ["names"] (ct_word_pattern K)) : FnV P w K mg base 8 (He.ga K "walk_of") (ct_walk_of K) := by
  obtain ⟨fd, F⟩ := T.d_walk_of
  refine fn_okV F sc_walk_of (fun _ _ _ _ _ _ rest => by cases rest <;> rfl) ct1_len (fun cdv A outer s H E hr => ⟨_, (pss_cons (ps_expr (pe_call (F_check_lanes.up (by decide)).ok hr rfl T.g_check_lanes.1 T.g_check_lanes.2 (F_check_lanes.up (by decide)).bn .nil (pass_own rfl rfl rfl rfl) (pa_cons (pv 0) pa_nil)))
      (pss_one (ps_ret (pe_call (F_word_pattern.up (by decide)).ok hr rfl T.g_word_pattern.1 T.g_word_pattern.2 (F_word_pattern.up (by decide)).bn .nil (pass_own rfl rfl rfl rfl) (pa_cons (pv 0) pa_nil))))), fun ws ka out B F0 Q hC hR hX => ?_⟩)
  obtain ⟨a, rfl, x, xs, rfl, hl, hn, rfl, rfl⟩ := hC
  have nn := names_ok hn
  refine q_drop (ev_callA (k2 := []) (d := .non) (ea1 (ev_var rfl)) ⟨_, rfl, true, stD (x :: xs), false, .vt, sqf_stD _ _, nn.1, (ck_ok (fun z => by cases z) nn.2).symm⟩) ?_
  exact g_ret hR (ev_callP (ea1 (ev_var rfl)) ⟨_, rfl, x, xs, rfl, hl, rfl, rfl⟩) ⟨rfl, rfl⟩
end
def ct_repeated (K : PySem.W.Frag) : Ct := Ct1 fun a ka out => ∃ t : Tr, a = .val (PaD K (t.d false)) ∧ ka = [] ∧ out = Rt (PaD K ((Tr.rep t).d false)) []
section
variable {P : Program} {w : World} {K : PySem.W.Frag} {mg : Str → Option Value} {base : Heap}
theorem ok_repeated (T : Tx K mg) (F_Pattern___init : Fn P w K mg base 4 (He.ma K (He.ga K "Pattern") "__init__") ["self", "tree"] (ct_Pattern___init K)) : Fn P w K mg base 6 (He.ga K "repeated") ["pattern"] (ct_repeated K) := by
  obtain ⟨fd, F⟩ := T.d_repeated
  refine fn_ok F sc_repeated (fun _ _ _ _ _ _ us hl => match us, hl with | [_], _ => rfl) ct1_len (fun cdv A outer s H E hr => ⟨_, (pss_one (ps_ret (pe_make T.mk_Pattern (F_Pattern___init.up (by decide)).ok hr rfl T.g_Pattern.1 (F_Pattern___init.up (by decide)).bn .nil (pass_own rfl rfl rfl rfl) (pa_cons (pe_tup (pa_cons pe_str (pa_cons (pe_fld (pv 0) rfl) pa_nil))) pa_nil)))), fun ws ka out B F0 Q hC hR hX => ?_⟩)
  obtain ⟨a, rfl, t, rfl, rfl, rfl⟩ := hC
  exact g_ret hR (ev_pat (ev_tup (ds := [.str "repeat", t.d false]) (ea2 ev_str (ev_fld (ev_var rfl) .v T.cl_Pattern T.na_Pattern_tree rfl)) (Nat.le_of_ble_eq_true rfl))) ⟨rfl, rfl⟩
end
def ct_optional (K : PySem.W.Frag) : Ct := Ct1 fun a ka out => ∃ t : Tr, a = .val (PaD K (t.d false)) ∧ ka = [] ∧ out = Rt (PaD K ((Tr.opt t).d false)) []
section
variable {P : Program} {w : World} {K : PySem.W.Frag} {mg : Str → Option Value} {base : Heap}
theorem ok_optional (T : Tx K mg) (F_Pattern___init : Fn P w K mg base 4 (He.ma K (He.ga K "Pattern") "__init__") ["self", "tree"] (ct_Pattern___init K)) : Fn P w K mg base 6 (He.ga K "optional") ["pattern"] (ct_optional K) := by
  obtain ⟨fd, F⟩ := T.d_optional
  refine fn_ok F sc_optional (fun _ _ _ _ _ _ us hl => match us, hl with | [_], _ => rfl) ct1_len (fun cdv A outer s H E hr => ⟨_, (pss_one (ps_ret (pe_make T.mk_Pattern (F_Pattern___init.up (by decide)).ok hr rfl T.g_Pattern.1 (F_Pattern___init.up (by decide)).bn .nil (pass_own rfl rfl rfl rfl) (pa_cons (pe_tup (pa_cons pe_str (pa_cons (pe_fld (pv 0) rfl) pa_nil))) pa_nil)))), fun ws ka out B F0 Q hC hR hX => ?_⟩)
  obtain ⟨a, rfl, t, rfl, rfl, rfl⟩ := hC
  exact g_ret hR (ev_pat (ev_tup (ds := [.str "option", t.d false]) (ea2 ev_str (ev_fld (ev_var rfl) .v T.cl_Pattern T.na_Pattern_tree rfl)) (Nat.le_of_ble_eq_true rfl))) ⟨rfl, rfl⟩
end
theorem ev_lenK {K : PySem.W.Frag} {ro : Ro} {ka k1 : Cells} {te : TE} {p : Addr} {ns : List Int} (h : EvD K te ro ka (.val (.adr p)) k1) (hk : ∀ H, SqL K H p (ns.map V.int)) : EvD K (tCB (rLenU K) (tCons te tNil)) ro ka (.val (.int ns.length)) k1 := fun B F0 ta sg H Q e q => h B F0 ta sg H _ e fun v H1 e1 => .inl ⟨p, ns.map V.int, by rw [e1.tm_adr List.mem_cons_self], .inl (hk H1), by
  rw [List.length_map]
  exact q _ _ (e1.pop.push_imm fun _ => rfl)⟩
theorem ev_ixK {K : PySem.W.Frag} {ro : Ro} {ka k1 k2 : Cells} {te tf : TE} {p : Addr} {ns : List Int} {i : Nat} {z : Int} (h : EvD K te ro ka (.val (.adr p)) k1) (h2 : EvD K tf ro k1 (.val (.int i)) k2) (hk : ∀ H, SqL K H p (ns.map V.int)) (hz : ns[i]? = some z) : EvD K (tOp (rIx K) te tf) ro ka (.val (.int z)) k2 := ev_op h h2 fun B F0 ro ta sg H u v Q e h1 h2 q =>
  .inl ⟨p, ns.map V.int, i, .int z, e.tm_adr h1, e.tm_int h2, hk H, atI_nat (by rw [List.getElem?_map, hz]; rfl), q _ _ (e.push_imm fun _ => rfl)⟩
def ct_law_cell (K : PySem.W.Frag) : Ct := Ct2 fun a b ka out => ∃ ns, ∃ k : Nat, Scr K a ns ∧ b = .val (.int k) ∧ ka = [] ∧ out = Rt (.int (ns.getD k 0)) []
section
variable {P : Program} {w : World} {K : PySem.W.Frag} {mg : Str → Option Value} {base : Heap}
theorem ok_law_cell (T : Tx K mg) : Fn P w K mg base 4 (He.ga K "_law_cell") ["_law_script", "_law_k"] (ct_law_cell K) := by
  obtain ⟨fd, F⟩ := T.d_law_cell
  refine fn_ok F sc_law_cell (fun _ _ _ _ _ _ us hl => match us, hl with | [_, _], _ => rfl) ct2_len (fun cdv A outer s H E hr => ⟨_, (pss_cons (ps_if (pt_cmpR op_lt (pv 1) (pe_callB call_lenU rfl T.n_len (by decide +kernel) (pa_cons (pv 0) pa_nil)) (nomark _))
      (pss_one (ps_ret (pe_ix ix_seq (pv 0) (pv 1) fun _ _ => rfl)))
      pss_nil)
      (pss_one (ps_ret pe_int))), fun ws ka out B F0 Q hC hR hX => ?_⟩)
  obtain ⟨a, b, rfl, ns, k, hs, rfl, rfl, rfl⟩ := hC
  have out0 : ¬ k < ns.length → ns.getD k 0 = 0 := fun h => by
    rw [List.getD_eq_getElem?_getD, List.getElem?_eq_none (by omega)]
    rfl
  have in0 : k < ns.length → ns[k]? = some (ns.getD k 0) := fun h => by
    rw [List.getD_eq_getElem?_getD, List.getElem?_eq_getElem h]
    rfl
  rcases hs with rfl | ⟨p, rfl, hk⟩
  · have hl : (inD ns).length = ns.length := List.length_map ..
    refine q_when (et_test (ev_lt (ev_var rfl) (ev_len (ev_var rfl) .vl))) (fun hb => g_ret hR (ev_ixV (d := .int (ns.getD k 0)) (ev_var rfl) (ev_var rfl) .vl (atI_nat ?_)) ⟨rfl, rfl⟩) (fun hb => g_ret hR ev_int ⟨?_, rfl⟩)
    · rw [decide_eq_true_eq, hl] at hb
      unfold inD
      rw [List.getElem?_map, in0 (by omega)]
      rfl
    · rw [decide_eq_false_iff_not, hl] at hb
      rw [out0 (by omega)]
  · refine q_when (et_test (ev_lt (ev_var rfl) (ev_lenK (ev_var rfl) hk))) (fun hb => g_ret hR (ev_ixK (ev_var rfl) (ev_var rfl) hk (in0 ?_)) ⟨rfl, rfl⟩) (fun hb => g_ret hR ev_int ⟨?_, rfl⟩)
    · rw [decide_eq_true_eq] at hb
      omega
    · rw [decide_eq_false_iff_not] at hb
      rw [out0 (by omega)]
end
def ct_law_pool (K : PySem.W.Frag) : Ct := Ct1 fun a ka out => ∃ z, a = .val (.int z) ∧ ka = [] ∧ out = Nt (.lst (plOf z).ds) []
section
variable {P : Program} {w : World} {K : PySem.W.Frag} {mg : Str → Option Value} {base : Heap}
theorem ok_law_pool (T : Tx K mg) : Fn P w K mg base 4 (He.ga K "_law_pool") ["_law_cell_here"] (ct_law_pool K) := by
  obtain ⟨fd, F⟩ := T.d_law_pool
  refine fn_ok F sc_law_pool (fun _ _ _ _ _ _ us hl => match us, hl with | [_], _ => rfl) ct1_len (fun cdv A outer s H E hr => ⟨_, (pss_cons (ps_set (i := 1) sc_law_pool.nd rfl (by first | exact Or.inl rfl | exact Or.inr rfl) (pe_op op_mulU pe_int (pv 0)))
      (pss_cons (ps_if (pt_cmpR op_lt (pv 0) pe_int (nomark _))
      (pss_one (ps_set (i := 1) sc_law_pool.nd rfl (by first | exact Or.inl rfl | exact Or.inr rfl) (pe_op op_sub (pe_op op_sub pe_int (pe_op op_mulU pe_int (pv 0))) pe_int)))
      pss_nil)
      (pss_cons (ps_if (pt_cmpR op_ge (pv 1) (pe_op op_pow pe_int pe_int) (nomark _))
      (pss_one (ps_ret (pe_lst (pa_cons (pv 1) (pa_cons (pe_op op_mod (pe_callTy call_intU rfl T.n_int (by decide +kernel) (pa_cons (pv 1) pa_nil)) pe_int) (pa_cons pe_int pa_nil))))))
      pss_nil)
      (pss_one (ps_ret (pe_lst (pa_cons pe_int (pa_cons (pe_op op_mod (pe_callTy call_intU rfl T.n_int (by decide +kernel) (pa_cons (pv 1) pa_nil)) pe_int) (pa_cons pe_int pa_nil))))))))), fun ws ka out B F0 Q hC hR hX => ?_⟩)
  obtain ⟨a, rfl, z, rfl, rfl, rfl⟩ := hC
  refine q_asg (ev_mulL ev_int (ev_var rfl)) ?_
  refine q_whenI (fun ro ka => ro = [some (.val (.int z)), some (.val (.int (fldZ z)))] ∧ ka = []) (et_test (ev_lt (ev_var rfl) ev_int)) (fun hb nx k => g_asg (ev_subI (ev_subI ev_int (ev_mulL ev_int (ev_var rfl))) ev_int) (k _ _ ⟨?_, rfl⟩)) (fun hb => ⟨?_, rfl⟩) ?_
  · rw [decide_eq_true_eq] at hb
    unfold fldZ
    rw [if_pos hb]
    rfl
  · rw [decide_eq_false_iff_not] at hb
    unfold fldZ
    rw [if_neg hb]
    rfl
  · rintro ro2 ka2 ⟨rfl, rfl⟩
    refine q_when (et_test (ev_ge (ev_var rfl) (ev_powI ev_int ev_int ⟨by decide, by decide, by decide⟩))) (fun hb => g_retC hR (evn_lst (ds := (plOf z).ds) (ea3 (ev_var rfl) (ev_modI (ev_int1 (ev_var rfl)) ev_int (by decide)) ev_int |>.to ?_) (show 3 ≤ 100000 by decide)) (fun a => ⟨a, rfl, rfl⟩)) (fun hb => g_retC hR (evn_lst (ds := (plOf z).ds) (ea3 ev_int (ev_modI (ev_int1 (ev_var rfl)) ev_int (by decide)) ev_int |>.to ?_) (show 3 ≤ 100000 by decide)) (fun a => ⟨a, rfl, rfl⟩))
    · rw [decide_eq_true_eq] at hb
      have hb : fldZ z ≥ 10 ^ 18 := hb
      unfold plOf
      rw [if_pos hb]
      rfl
    · rw [decide_eq_false_iff_not] at hb
      have hb : ¬ fldZ z ≥ 10 ^ 18 := hb
      unfold plOf
      rw [if_neg hb]
      rfl
end
def ct_law_take (K : PySem.W.Frag) : Ct := Ct2 fun s b ka out => ∃ a p m, s = .val (.adr a) ∧ b = .val (.int m) ∧ ka = [(a, .lst (Pl.ds p))] ∧ p.Ok 1000000 ∧ 0 < m ∧ m ≤ 100000000 ∧ out = Rt (.int (tk p m).1) [(a, .lst (tk p m).2.ds)]
/-- a draw from the pool that is the first cell -/
theorem ev_take {K : PySem.W.Frag} {ro : Ro} {ka kr : Cells} {te tf : TE} {a : Addr} {p : Pl} {m : Int} {E : XK} {k1 : Cells} (h : EvD K te ro ka (.val (.adr a)) k1) (h2 : EvD K tf ro k1 (.val (.int m)) ((a, .lst p.ds) :: kr)) (hp : p.Ok 1000000) (h0 : 0 < m) (h1 : m ≤ 100000000) :
    EvD K (tCall (spC K (ct_law_take K)) [] E (tCons te (tCons tf tNil))) ro ka (.val (.int (tk p m).1)) ((a, .lst (tk p m).2.ds) :: kr) := ev_call1 (ea2 h h2) ⟨_, _, rfl, a, p, m, rfl, rfl, rfl, hp, h0, h1, rfl⟩
/-- a thing drawn out of texts, the pool behind it -/
def drawS (p : Pl) (ss : List Str) : Str := ss.getD (tk p ((stD ss).length : Nat)).1.toNat ""
def drawP (p : Pl) (ss : List Str) : Pl := (tk p ((stD ss).length : Nat)).2
theorem draw_lt {ss : List Str} (h : ss ≠ []) (p : Pl) : (0 : Int) < ((stD ss).length : Nat) ∧ 0 ≤ (tk p ((stD ss).length : Nat)).1 ∧ (tk p ((stD ss).length : Nat)).1.toNat < ss.length := by
  have hp := List.length_pos_iff.mpr h
  have hL : (0 : Int) < ((stD ss).length : Nat) := by rw [stD_len]; omega
  have t1 := tk_lt p hL
  refine ⟨hL, t1.1, ?_⟩
  have h1 := t1.1
  have h2 := t1.2
  rw [stD_len] at h1 h2 ⊢
  omega
theorem draw_eq {ss : List Str} (h : ss ≠ []) (p : Pl) : ss[(tk p ((stD ss).length : Nat)).1.toNat]? = some (drawS p ss) := by
  unfold drawS
  rw [List.getD_eq_getElem?_getD, List.getElem?_eq_getElem (draw_lt h p).2.2]
  rfl
theorem drawS_mem {ss : List Str} (h : ss ≠ []) (p : Pl) : drawS p ss ∈ ss := List.mem_of_getElem? (draw_eq h p)
theorem drawP_ok {ss : List Str} {p : Pl} {n : Int} (hp : p.Ok n) (h : ss ≠ []) : (drawP p ss).Ok (n + 1) := tk_ok hp (draw_lt h p).1
theorem ev_draw {K : PySem.W.Frag} {ro : Ro} {ka kr k0 k1 : Cells} {te tp tl : TE} {a : Addr} {p : Pl} {ss : List Str} {E : XK} (h1 : EvD K te ro ka (.val (.lst (stD ss))) k0) (h2 : EvD K tp ro k0 (.val (.adr a)) k1) (h3 : EvD K tl ro k1 (.val (.lst (stD ss))) ((a, .lst p.ds) :: kr)) (hp : p.Ok 1000000) (h : ss ≠ []) (hl : ss.length ≤ 100000) :
    EvD K (tOp (rIx K) te (tCall (spC K (ct_law_take K)) [] E (tCons tp (tCons (tCB (rLenU K) (tCons tl tNil)) tNil)))) ro ka (.val (.str (drawS p ss))) ((a, .lst (drawP p ss).ds) :: kr) :=
  ev_ixV h1 (ev_take h2 (ev_len h3 .vl) hp (draw_lt h p).1 (by rw [stD_len]; omega)) .vl (atZ (draw_lt h p).2.1 (stD_get (draw_eq h p)))
section
variable {P : Program} {w : World} {K : PySem.W.Frag} {mg : Str → Option Value} {base : Heap}
theorem ok_law_take (T : Tx K mg) : Fn P w K mg base 4 (He.ga K "_law_take") ["_law_pool_here", "_law_many"] (ct_law_take K) := by
  obtain ⟨fd, F⟩ := T.d_law_take
  refine fn_ok F sc_law_take (fun _ _ _ _ _ _ us hl => match us, hl with | [_, _], _ => rfl) ct2_len (fun cdv A outer s H E hr => ⟨_, (pss_cons (ps_if (pt_cmpR op_gt (pe_ix ix_seq (pv 0) pe_int fun _ _ => rfl) pe_int (nomark _))
      (pss_cons (ps_set (i := 2) sc_law_take.nd rfl (by first | exact Or.inl rfl | exact Or.inr rfl) (pe_op op_mod (pe_callTy call_intU rfl T.n_int (by decide +kernel) (pa_cons (pe_ix ix_seq (pv 0) pe_int fun _ _ => rfl) pa_nil)) (pv 1)))
      (pss_cons (ps_asg (pe_op op_fdiv (pe_ix ix_seq (pv 0) pe_int fun _ _ => rfl) (pv 1)) (pg_sub (pv 0) pe_int set_list))
      (pss_one (ps_ret (pv 2)))))
      pss_nil)
      (pss_cons (ps_asg (pe_op op_addU (pe_ix ix_seq (pv 0) pe_int fun _ _ => rfl) pe_int) (pg_sub (pv 0) pe_int set_list))
      (pss_cons (ps_set (i := 3) sc_law_take.nd rfl (by first | exact Or.inl rfl | exact Or.inr rfl) (pe_op op_mod (pe_callTy call_intU rfl T.n_int (by decide +kernel) (pa_cons (pe_op op_pow (pe_op op_addU (pe_op op_addU (pe_ix ix_seq (pv 0) pe_int fun _ _ => rfl) (pe_op op_mulU pe_int (pe_ix ix_seq (pv 0) pe_int fun _ _ => rfl))) pe_int) pe_int) pa_nil)) pe_int))
      (pss_one (ps_ret (pe_op op_mod (pe_op op_mod (pe_callTy call_intU rfl T.n_int (by decide +kernel) (pa_cons (pe_op op_mulU (pe_op op_addU (pv 3) (pe_ix ix_seq (pv 0) pe_int fun _ _ => rfl)) pe_int) pa_nil)) pe_int) (pv 1))))))), fun ws ka out B F0 Q hC hR hX => ?_⟩)
  obtain ⟨s1, b, rfl, a, p, m, rfl, rfl, rfl, hp, h0, h1, rfl⟩ := hC
  obtain ⟨p1, p2, p3, p4, p5⟩ := hp
  have i2 : atI (Pl.ds p) 2 = some (.int p.c) := atI_nat (j := 2) rfl
  have i1 : atI (Pl.ds p) 1 = some (.int p.b) := atI_nat (j := 1) rfl
  refine q_when (et_test (ev_gt (ev_ixV (ev_var rfl) ev_int (.ce 0 rfl) at0) ev_int)) (fun hb => ?_) (fun hb => ?_)
  · rw [decide_eq_true_eq] at hb
    refine q_asg (ev_modI (ev_int1 (ev_ixV (ev_var rfl) ev_int (.ce 0 rfl) at0)) (ev_var rfl) h0) ?_
    refine q_seti (j := 0) (ix := 0) (ev_divI (ev_ixV (ev_var rfl) ev_int (.ce 0 rfl) at0) (ev_var rfl) ⟨h0, by omega⟩) (ev_var rfl) ev_int rfl rfl ?_
    refine g_ret hR (ev_var rfl) ?_
    unfold tk
    rw [if_pos hb]
    exact ⟨rfl, rfl⟩
  · rw [decide_eq_false_iff_not] at hb
    refine q_seti (j := 0) (ix := 2) (ev_addI (ev_ixV (ev_var rfl) ev_int (.ce 0 rfl) i2) ev_int) (ev_var rfl) ev_int rfl rfl ?_
    refine q_asg (ev_modI (ev_int1 (ev_powI (i := p.b + 7919 * (p.c + 1) + 104729) (ev_addI (ev_addI (ev_ixV (ev_var rfl) ev_int (.ce 0 rfl) (atI_nat (j := 1) rfl)) (ev_mulL ev_int (ev_ixV (ev_var rfl) ev_int (.ce 0 rfl) (atI_nat (j := 2) rfl)))) ev_int) ev_int ⟨by decide, by decide, ?_⟩)) ev_int (by decide)) ?_
    · omega
    refine g_ret hR (ev_modI (ev_modI (ev_int1 (ev_mulR (ev_addI (ev_var rfl) (ev_ixV (ev_var rfl) ev_int (.ce 0 rfl) (atI_nat (j := 2) rfl))) ev_int)) ev_int (by decide)) (ev_var rfl) h0) ?_
    unfold tk
    rw [if_neg hb]
    exact ⟨rfl, rfl⟩
end
structure WdOk (l : List Nat) (k : Nat) : Prop where
  hd : ∃ c, l.head? = some c ∧ c ∈ letL
  sg : ∀ x ∈ l, x ∈ letL ++ digL
  len : l.length = k
theorem head_take {l : List Nat} {n : Nat} (h : 0 < n) : (l.take n).head? = l.head? := by
  cases l with
  | nil => simp
  | cons c r =>
    cases n with
    | zero => omega
    | succ n => rfl
theorem head_app {l m : List Nat} {c : Nat} (h : l.head? = some c) : (l ++ m).head? = some c := by
  cases l with
  | nil => cases h
  | cons d r => exact h
theorem nm_mid {l st : List Nat} {c p : Nat} (hl : WdOk l 8) (r : Nat) (hr : r < 8) (hst : st = l.take r) (hp : p ≤ st.length) (h0 : p = 0 → c ∈ letL) (hc : c ∈ letL ++ digL) : isNm (tx (st.take p ++ [c] ++ st.drop p)) = true := by
  subst hst
  refine nm_of ?_ (fun x hx => ?_) ?_
  · by_cases hp0 : p = 0
    · subst hp0
      exact ⟨c, by simp, h0 rfl⟩
    · obtain ⟨d, h1, h2⟩ := hl.hd
      rw [List.length_take] at hp
      refine ⟨d, head_app (head_app ?_), h2⟩
      rw [head_take (by omega), head_take (by omega)]
      exact h1
  · rcases List.mem_append.mp hx with hx | hx
    · rcases List.mem_append.mp hx with hx | hx
      · exact hl.sg x (List.mem_of_mem_take (List.mem_of_mem_take hx))
      · rw [List.mem_singleton.mp hx]; exact hc
    · exact hl.sg x (List.mem_of_mem_take (List.mem_of_mem_drop hx))
  · rw [List.length_append, List.length_append, List.length_take, List.length_drop, List.length_take, hl.len]
    simp
    omega
theorem key_snoc {β : Type} {key : Str → β} {f : Nat → β} {ss : List Str} {x : Str} (h : ∀ j s, ss[j]? = some s → key s = f j) (hx : key x = f ss.length) : ∀ j s, (ss ++ [x])[j]? = some s → key s = f j := fun j s e => by
  rcases Nat.lt_trichotomy j ss.length with q | q | q
  · rw [List.getElem?_append_left q] at e
    exact h j s e
  · subst q
    rw [List.getElem?_append_right (Nat.le_refl _), Nat.sub_self] at e
    cases e
    exact hx
  · rw [List.getElem?_append_right (by omega)] at e
    have := (List.getElem?_eq_some_iff.mp e).1
    rw [List.length_singleton] at this
    omega
theorem key_nd {β : Type} {key : Str → β} {f : Nat → β} {ss : List Str} (h : ∀ j s, ss[j]? = some s → key s = f j) (inj : ∀ i j, i < j → j < ss.length → f i ≠ f j) : ss.Nodup := by
  refine List.pairwise_iff_getElem.mpr fun i j hi hj hij e => inj i j hij hj ?_
  rw [← h i _ (List.getElem?_eq_getElem hi), ← h j _ (List.getElem?_eq_getElem hj), e]
theorem at_get {β : Type} {xs : List β} {i : Int} {x : β} (h0 : 0 ≤ i) (h : atI xs i = some x) : xs[i.toNat]? = some x := by
  unfold atI ixN at h
  rw [if_pos h0] at h
  by_cases q : i < xs.length
  · rw [if_pos q] at h
    exact h
  · rw [if_neg q] at h
    cases h
theorem let_nd : letL.Nodup := by decide
theorem sig_nd : (letL ++ digL).Nodup := by decide
theorem nd_inj {xs : List Nat} (h : xs.Nodup) {i j : Nat} (hi : i < xs.length) (hij : i ≠ j) : xs[i]? ≠ xs[j]? := fun e => by
  rw [List.getElem?_eq_getElem hi] at e
  obtain ⟨hj, e2⟩ := List.getElem?_eq_some_iff.mp e.symm
  exact hij ((List.getElem_inj h).mp e2).symm
def ct_law_names (K : PySem.W.Frag) : Ct := Ct2 fun s b ka out => ∃ a p n m, s = .val (.adr a) ∧ b = .val (.int m) ∧ ka = [(a, .lst (Pl.ds p))] ∧ p.Ok n ∧ 0 ≤ n ∧ n ≤ 900000 ∧ 0 ≤ m ∧ m ≤ 8 ∧
  out = fun o k => ∃ ss p', o = .ret (.lst (stD ss)) ∧ k = [(a, .lst (Pl.ds p'))] ∧ p'.Ok (n + 30) ∧ ss.length = m.toNat ∧ (∀ s ∈ ss, isNm s = true) ∧ ss.Nodup
section
variable {P : Program} {w : World} {K : PySem.W.Frag} {mg : Str → Option Value} {base : Heap}
theorem ok_law_names (T : Tx K mg) (F_law_take : Fn P w K mg base 4 (He.ga K "_law_take") ["_law_pool_here", "_law_many"] (ct_law_take K)) : Fn P w K mg base 6 (He.ga K "_law_names") ["_law_pool_here", "_law_many"] (ct_law_names K) := by
  obtain ⟨fd, F⟩ := T.d_law_names
  refine fn_ok F sc_law_names (fun _ _ _ _ _ _ us hl => match us, hl with | [_, _], _ => rfl) ct2_len (fun cdv A outer s H E hr => ⟨_, (pss_cons (ps_set (i := 2) sc_law_names.nd rfl (by first | exact Or.inl rfl | exact Or.inr rfl) pe_str)
      (pss_cons (ps_set (i := 3) sc_law_names.nd rfl (by first | exact Or.inl rfl | exact Or.inr rfl) (pe_op op_addU (pv 2) pe_str))
      (pss_cons (ps_set (i := 4) sc_law_names.nd rfl (by first | exact Or.inl rfl | exact Or.inr rfl) (pe_ix ix_seq (pv 2) (pe_call (F_law_take.up (by decide)).ok hr rfl T.g_law_take.1 T.g_law_take.2 (F_law_take.up (by decide)).bn .nil (pass_own rfl rfl rfl rfl) (pa_cons (pv 0) (pa_cons pe_int pa_nil))) fun _ _ => rfl))
      (pss_cons (ps_for (passes_of rfl) rfl (pi_range1 rfl T.n_range (pa_cons pe_int pa_nil)) (pg_name (i := 5) sc_law_names.nd rfl (by first | exact Or.inl rfl | exact Or.inr rfl)) (pss_one (ps_set (i := 4) sc_law_names.nd rfl (by first | exact Or.inl rfl | exact Or.inr rfl) (pe_op op_addU (pv 4) (pe_ix ix_seq (pv 3) (pe_call (F_law_take.up (by decide)).ok hr rfl T.g_law_take.1 T.g_law_take.2 (F_law_take.up (by decide)).bn .nil (pass_own rfl rfl rfl rfl) (pa_cons (pv 0) (pa_cons pe_int pa_nil))) fun _ _ => rfl)))))
      (pss_cons (ps_set (i := 6) sc_law_names.nd rfl (by first | exact Or.inl rfl | exact Or.inr rfl) (pe_call (F_law_take.up (by decide)).ok hr rfl T.g_law_take.1 T.g_law_take.2 (F_law_take.up (by decide)).bn .nil (pass_own rfl rfl rfl rfl) (pa_cons (pv 0) (pa_cons pe_int pa_nil))))
      (pss_cons (ps_set (i := 7) sc_law_names.nd rfl (by first | exact Or.inl rfl | exact Or.inr rfl) (pe_call (F_law_take.up (by decide)).ok hr rfl T.g_law_take.1 T.g_law_take.2 (F_law_take.up (by decide)).bn .nil (pass_own rfl rfl rfl rfl) (pa_cons (pv 0) (pa_cons pe_int pa_nil))))
      (pss_cons (ps_if (pt_cmpR (op_eqP (by have := (hr).units; exact this)) (pv 6) pe_int (nomark _))
      (pss_one (ps_ret (pe_lc (te := (tSl (rSlU K) (tVar 4) tNoPart (tPart (tOp (rAddU K) (tVar 5) (tC (.int 1)))))) (tt := tYes) (own := [("_law_k", 5)]) rfl sc_law_names.nd (pi_range1 rfl T.n_range (pa_cons (pv 1) pa_nil)) (blk_ok ["_law_pool_here", "_law_many", "_law_letters", "_law_signs", "_law_word", "_law_k", "_law_kind", "_law_start", "_law_stem", "_law_place", "_law_told", "_law_names_here", "_law_sign"] (defScope s_law_names) rfl rfl (by decide +kernel)) (fun _ _ _ _ _ => (pg_name (i := 5) sc_law_names.nd rfl (by first | exact Or.inl rfl | exact Or.inr rfl))) (fun _ _ _ _ _ => pts_nil) (fun _ _ _ _ _ => (pe_slice sl_U (pv 4) po_none (po_some (pe_op op_addU (pv 5) pe_int)))))))
      pss_nil)
      (pss_cons (ps_if (pt_cmpR (op_eqP (by have := (hr).units; exact this)) (pv 6) pe_int (nomark _))
      (pss_one (ps_ret (pe_lc (te := (tOp (rAddU K) (tOp (rIx K) (tVar 2) (tOp rModI (tOp (rAddU K) (tVar 7) (tOp rMulU (tC (.int 3)) (tVar 5))) (tC (.int 26)))) (tSl (rSlU K) (tVar 4) tNoPart (tPart (tCall (spC K (ct_law_take K)) [] (fun _ _ _ => False) (tCons (tVar 0) (tCons (tC (.int 8)) tNil))))))) (tt := tYes) (own := [("_law_k", 5)]) rfl sc_law_names.nd (pi_range1 rfl T.n_range (pa_cons (pv 1) pa_nil)) (blk_ok ["_law_pool_here", "_law_many", "_law_letters", "_law_signs", "_law_word", "_law_k", "_law_kind", "_law_start", "_law_stem", "_law_place", "_law_told", "_law_names_here", "_law_sign"] (defScope s_law_names) rfl rfl (by decide +kernel)) (fun _ _ _ _ _ => (pg_name (i := 5) sc_law_names.nd rfl (by first | exact Or.inl rfl | exact Or.inr rfl))) (fun _ _ _ _ _ => pts_nil) (fun _ _ _ _ _ => (pe_op op_addU (pe_ix ix_seq (pv 2) (pe_op op_mod (pe_op op_addU (pv 7) (pe_op op_mulU pe_int (pv 5))) pe_int) fun _ _ => rfl) (pe_slice sl_U (pv 4) po_none (po_some (pe_call (F_law_take.up (by decide)).ok hr rfl T.g_law_take.1 T.g_law_take.2 (F_law_take.up (by decide)).bn .nil passes_no (pa_cons (pv 0) (pa_cons pe_int pa_nil))))))))))
      pss_nil)
      (pss_cons (ps_set (i := 8) sc_law_names.nd rfl (by first | exact Or.inl rfl | exact Or.inr rfl) (pe_slice sl_U (pv 4) po_none (po_some (pe_call (F_law_take.up (by decide)).ok hr rfl T.g_law_take.1 T.g_law_take.2 (F_law_take.up (by decide)).bn .nil (pass_own rfl rfl rfl rfl) (pa_cons (pv 0) (pa_cons pe_int pa_nil))))))
      (pss_cons (ps_set (i := 9) sc_law_names.nd rfl (by first | exact Or.inl rfl | exact Or.inr rfl) (pe_call (F_law_take.up (by decide)).ok hr rfl T.g_law_take.1 T.g_law_take.2 (F_law_take.up (by decide)).bn .nil (pass_own rfl rfl rfl rfl) (pa_cons (pv 0) (pa_cons (pe_op op_addU (pe_callB call_lenU rfl T.n_len (by decide +kernel) (pa_cons (pv 8) pa_nil)) pe_int) pa_nil))))
      (pss_cons (ps_set (i := 10) sc_law_names.nd rfl (by first | exact Or.inl rfl | exact Or.inr rfl) (pe_ifExp (pt_cmpR (op_eqP (by have := (hr).units; exact this)) (pv 9) pe_int (nomark _)) (pv 2) (pv 3)))
      (pss_cons (ps_set (i := 11) sc_law_names.nd rfl (by first | exact Or.inl rfl | exact Or.inr rfl) (pe_lst pa_nil))
      (pss_cons (ps_for (passes_of rfl) rfl (pi_range1 rfl T.n_range (pa_cons (pv 1) pa_nil)) (pg_name (i := 5) sc_law_names.nd rfl (by first | exact Or.inl rfl | exact Or.inr rfl)) (pss_cons (ps_set (i := 12) sc_law_names.nd rfl (by first | exact Or.inl rfl | exact Or.inr rfl) (pe_ix ix_seq (pv 10) (pe_op op_mod (pe_op op_addU (pv 7) (pe_op op_mulU pe_int (pv 5))) (pe_callB call_lenU rfl T.n_len (by decide +kernel) (pa_cons (pv 10) pa_nil))) fun _ _ => rfl))
      (pss_one (ps_expr (pe_bm PySem.F.plainAttrs_list PySem.F.slot_list_append PySem.F.type_list_append mt_append (pv 11) (pa_cons (pe_op op_addU (pe_op op_addU (pe_slice sl_U (pv 8) po_none (po_some (pv 9))) (pv 12)) (pe_slice sl_U (pv 8) (po_some (pv 9)) po_none)) pa_nil))))))
      (pss_one (ps_ret (pv 11)))))))))))))))), fun ws ka out B F0 Q hC hR hX => ?_⟩)
  obtain ⟨s1, b1, rfl, a, p, n, m, rfl, rfl, rfl, hp, hn0, hn, hm0, hm, rfl⟩ := hC
  refine q_asg (ev_str.to (congrArg (fun z => W.val (.str z)) letters_tx)) ?_
  refine q_asg (ev_addT (ev_var rfl) (ev_str.to (congrArg (fun z => W.val (.str z)) digits_tx)) (by decide)) ?_
  have t0 := tk_lt p (m := 26) (by decide)
  obtain ⟨c0, hc0, hm1⟩ := sgn_at (l := letL) t0.1 (by rw [let_len]; exact t0.2)
  have hp1 : (tk p 26).2.Ok (n + 1) := tk_ok hp (by decide)
  refine q_asg (ev_ixT (ev_var rfl) (ev_take (kr := []) (ev_var rfl) ev_int (hp.up (by omega)) (by decide) (by decide)) (by decide) hc0) ?_
  refine q_forn (ei_range1 (ea1 ev_int) (by decide) (by decide)) (fun i ro ka => ∃ l p' v, ro = [some (.val (.adr a)), some (.val (.int m)), some (.val (.str (tx letL))), some (.val (.str (tx (letL ++ digL)))), some (.val (.str (tx l))), v, none, none, none, none, none, none, none] ∧ ka = [(a, .lst (Pl.ds p'))] ∧ p'.Ok (n + 1 + i) ∧ WdOk l (i + 1))
    ⟨[c0], _, none, rfl, rfl, hp1.up (by omega), ⟨c0, rfl, hm1⟩, fun x hx => by rw [List.mem_singleton.mp hx]; exact List.mem_append_left _ hm1, rfl⟩ (fun i ro ka _ => trivial) (fun i w ro2 ka2 ta' hw ⟨l, p', v, e1, e2, hp', hl⟩ => ?_) (fun ro2 ka2 ta' ⟨l, p1, v, e1, e2, hp1, hl⟩ _ => ?_)
  · subst e1 e2
    have hi : i < 7 := by
      have := (List.getElem?_eq_some_iff.mp hw).1
      rwa [List.length_map, List.length_range] at this
    have t1 := tk_lt p' (m := 36) (by decide)
    obtain ⟨c, hc, hm2⟩ := sgn_at (l := letL ++ digL) t1.1 (by rw [sig_len]; exact t1.2)
    refine g_asg (ev_addT (ev_var rfl) (ev_ixT (ev_var rfl) (ev_take (kr := []) (ev_var rfl) ev_int (hp'.up (by omega)) (by decide) (by decide)) (by decide) hc) (by rw [hl.len]; simp; omega)) (g_jp ⟨l ++ [c], _, _, rfl, rfl, (tk_ok hp' (by decide)).up (by push_cast; omega), ?_, fun x hx => ?_, by rw [List.length_append, hl.len]; rfl⟩)
    · obtain ⟨d, h1, h2⟩ := hl.hd
      exact ⟨d, head_app h1, h2⟩
    · rcases List.mem_append.mp hx with hx | hx
      · exact hl.sg x hx
      · rw [List.mem_singleton.mp hx]; exact hm2
  subst e1 e2
  rw [List.length_map, List.length_range] at hp1 hl
  have hl : WdOk l 8 := hl
  have hp1 : p1.Ok (n + 8) := hp1.up (by show n + 1 + 7 ≤ n + 8; omega)
  have hp2 := tk_ok hp1 (m := 4) (by decide)
  have hp3 := tk_ok hp2 (m := 36) (by decide)
  have t4 := tk_lt p1 (m := 4) (by decide)
  have t5 := tk_lt (tk p1 4).2 (m := 36) (by decide)
  have hl8 : l.length = 8 := hl.len
  refine q_asg (ev_take (kr := []) (ev_var rfl) ev_int (hp1.up (by omega)) (by decide) (by decide)) ?_
  refine q_asg (ev_take (kr := []) (ev_var rfl) ev_int (hp2.up (by omega)) (by decide) (by decide)) ?_
  generalize tk (tk p1 4).2 36 = q3 at *
  refine q_when (et_test (ev_eqI (ev_var rfl) ev_int)) (fun _ => ?_) (fun _ => ?_)
  · refine g_retL hR (evn_map (xs := List.range m.toNat) (g := fun i : Nat => W.val (.int (i : Int))) (f := fun i => D.str (tx (l.take (i + 1)))) (ei_range1 (ea1 (ev_var rfl)) (by omega) (by omega)) (by decide) (by rw [List.length_range]; omega) ⟨trivial, fun _ => trivial⟩ (fun i hi => (ev_slX (ev_var rfl) eo_none (eo_some (ev_addI (ev_var rfl) ev_int)) (by omega)).to ?_)) ⟨(List.range m.toNat).map fun i => tx (l.take (i + 1)), _, ?_, rfl, hp3.up (by omega), by rw [List.length_map, List.length_range], fun s hs => ?_, key_nd (key := fun s => s.cps.toList.length) (f := fun j => j + 1) (fun j s e => ?_) (fun i j h1 _ => by show i + 1 ≠ j + 1; omega)⟩
    · rw [cut_to' (by omega)]
      rfl
    · unfold stD
      rw [List.map_map]
      rfl
    · obtain ⟨i, hi, rfl⟩ := List.mem_map.mp hs
      obtain ⟨d, h1, h2⟩ := hl.hd
      refine nm_of ⟨d, by rw [head_take (by omega)]; exact h1, h2⟩ (fun x hx => hl.sg x (List.mem_of_mem_take hx)) ?_
      rw [List.length_take]
      omega
    · rw [List.getElem?_map] at e
      obtain ⟨i, hi, rfl⟩ := Option.map_eq_some_iff.mp e
      obtain ⟨h1, h2⟩ := List.getElem?_eq_some_iff.mp hi
      rw [List.getElem_range] at h2
      rw [List.length_range] at h1
      subst h2
      show (tx _).cps.toList.length = _
      rw [tx_cps, List.length_take]
      omega
  refine q_when (et_test (ev_eqI (ev_var rfl) ev_int)) (fun _ => ?_) (fun _ => ?_)
  · refine g_retR hR (evr_lc (ei_range1 (ea1 (ev_var rfl)) (by omega) (by omega)) (by decide) (by rw [List.length_map, List.length_range]; omega) (fun i acc k => ∃ ss p', acc = stD ss ∧ k = [(a, .lst (Pl.ds p'))] ∧ p'.Ok (n + 10 + i) ∧ ss.length = i ∧ (∀ s ∈ ss, isNm s = true) ∧ ∀ (j : Nat) (s : Str), ss[j]? = some s → s.cps.toList[0]? = letL[((q3.1 + 3 * (j : Int)) % 26).toNat]?) ⟨[], _, rfl, rfl, hp3.up (by omega), rfl, (fun s h => by cases h), fun j s h => by simp at h⟩ (fun i acc k _ => ⟨trivial, fun _ => trivial⟩) (fun i w acc k hw ⟨ss, p', e1, e2, hp', hl2, hs, hk⟩ => ?_)) (fun nd k ⟨acc, e0, ss, p', e1, e2, hp', hl2, hs, hk⟩ => ?_)
    · subst e1 e2
      have hi : i < m.toNat := by
        have := (List.getElem?_eq_some_iff.mp hw).1
        rwa [List.length_map, List.length_range] at this
      have hw2 : w = .val (.int (i : Int)) := by
        rw [List.getElem?_map, List.getElem?_range hi] at hw
        cases hw
        rfl
      subst hw2
      have hz : 0 ≤ (q3.1 + 3 * (i : Int)) % 26 := Int.emod_nonneg _ (by decide)
      have hz2 : (q3.1 + 3 * (i : Int)) % 26 < 26 := Int.emod_lt_of_pos _ (by decide)
      obtain ⟨c, hc, hm2⟩ := sgn_at (l := letL) hz (by rw [let_len]; exact hz2)
      have t6 := tk_lt p' (m := 8) (by decide)
      refine .inr ⟨_, _, .str (tx ([c] ++ l.take (tk p' 8).1.toNat)), et_yes, (ev_addT (ev_ixT (ev_var rfl) (ev_modI (ev_addI (ev_var rfl) (ev_mulL ev_int (ev_var rfl))) ev_int (by decide)) (by decide) hc) ((ev_slX (ev_var rfl) eo_none (eo_some (ev_take (kr := []) (ev_var rfl) ev_int (hp'.up (by omega)) (by decide) (by decide))) (by omega)).to (congrArg (fun z => W.val (.str (tx z))) (cut_to' t6.1))) (by rw [List.length_take]; simp; omega)), ss ++ [tx ([c] ++ l.take (tk p' 8).1.toNat)], _, stD_app ss [_], rfl, (tk_ok hp' (by decide)).up (by push_cast; omega), by rw [List.length_append, hl2]; rfl, fun s h => ?_, key_snoc hk (by rw [hl2, at_get hz hc]; rfl)⟩
      rcases List.mem_append.mp h with h | h
      · exact hs s h
      · rw [List.mem_singleton.mp h]
        refine nm_of ⟨c, rfl, hm2⟩ (fun x hx => ?_) ?_
        · rcases List.mem_append.mp hx with hx | hx
          · rw [List.mem_singleton.mp hx]; exact List.mem_append_left _ hm2
          · exact hl.sg x (List.mem_of_mem_take hx)
        · rw [List.length_append, List.length_take]
          simp
          omega
    · subst e1 e2
      rw [List.length_map, List.length_range] at hl2 hp'
      refine ⟨_, e0, ss, p', rfl, rfl, hp'.up (by omega), hl2, hs, key_nd hk fun i j h1 h2 => nd_inj let_nd ?_ ?_⟩
      · rw [let_len]; omega
      · omega
  have t6 := tk_lt q3.2 (m := 8) (by decide)
  have hp4 := tk_ok hp3 (m := 8) (by decide)
  refine q_asg ((ev_slX (ev_var rfl) eo_none (eo_some (ev_take (kr := []) (ev_var rfl) ev_int (hp3.up (by omega)) (by decide) (by decide))) (by omega)).to (congrArg (fun z => W.val (.str (tx z))) (cut_to' t6.1))) ?_
  generalize hst : l.take (tk q3.2 8).1.toNat = st
  have hsl : st.length ≤ 7 := by
    rw [← hst, List.length_take]
    omega
  have t7 := tk_lt (tk q3.2 8).2 (m := (st.length : Int) + 1) (by omega)
  have hp5 := tk_ok hp4 (m := (st.length : Int) + 1) (by omega)
  refine q_asg (ev_take (kr := []) (ev_var rfl) (ev_addI (ev_lenX (ev_var rfl) (by omega)) ev_int) (hp4.up (by omega)) (by omega) (by omega)) ?_
  generalize tk (tk q3.2 8).2 ((st.length : Int) + 1) = q5 at *
  generalize htl : (if (q5.1 == 0) = true then letL else letL ++ digL) = tl
  have htl0 : 0 < tl.length ∧ tl.length ≤ 36 := by
    rw [← htl]
    split <;> decide
  refine q_asg (w := .val (.str (tx tl))) (ev_if (et_test (ev_eqI (ev_var rfl) ev_int)) (fun hb => (ev_var rfl).to (by rw [← htl, if_pos hb])) (fun hb => (ev_var rfl).to (by rw [← htl, if_neg (by rw [hb]; exact Bool.false_ne_true)]))) ?_
  refine q_asgN (evn_lst (ds := []) ea_nil (by decide)) (fun b => ?_)
  refine q_forn (ei_range1 (ea1 (ev_var rfl)) (by omega) (by omega)) (fun i ro ka => ∃ ss v v2, ro = [some (.val (.adr a)), some (.val (.int m)), some (.val (.str (tx letL))), some (.val (.str (tx (letL ++ digL)))), some (.val (.str (tx l))), v, some (.val (.int (tk p1 4).1)), some (.val (.int q3.1)), some (.val (.str (tx st))), some (.val (.int q5.1)), some (.val (.str (tx tl))), some (.val (.adr b)), v2] ∧ ka = [(a, .lst (Pl.ds q5.2)), (b, .lst (stD ss))] ∧ ss.length = i ∧ (∀ s ∈ ss, isNm s = true) ∧ ∀ (j : Nat) (s : Str), ss[j]? = some s → s.cps.toList[q5.1.toNat]? = tl[((q3.1 + 7 * (j : Int)) % (tl.length : Int)).toNat]?)
    ⟨[], _, none, rfl, rfl, rfl, (fun s h => by cases h), fun j s h => by simp at h⟩ (fun i ro ka _ => trivial) (fun i w ro2 ka2 ta' hw ⟨ss, v, v2, e1, e2, hl2, hs, hk⟩ => ?_) (fun ro2 ka2 ta' ⟨ss, v, v2, e1, e2, hl2, hs, hk⟩ _ => ?_)
  · subst e1 e2
    have hi : i < m.toNat := by
      have := (List.getElem?_eq_some_iff.mp hw).1
      rwa [List.length_map, List.length_range] at this
    have hw2 : w = .val (.int (i : Int)) := by
      rw [List.getElem?_map, List.getElem?_range hi] at hw
      cases hw
      rfl
    subst hw2
    have hz : 0 ≤ (q3.1 + 7 * (i : Int)) % (tl.length : Int) := Int.emod_nonneg _ (by omega)
    have hz2 : (q3.1 + 7 * (i : Int)) % (tl.length : Int) < tl.length := Int.emod_lt_of_pos _ (by omega)
    obtain ⟨c, hc, hm2⟩ := sgn_at (l := tl) hz hz2
    have hpl : q5.1 ≤ st.length := by omega
    refine q_asg (ev_ixT (ev_var rfl) (ev_modI (ev_addI (ev_var rfl) (ev_mulL ev_int (ev_var rfl))) (ev_lenX (ev_var rfl) (by omega)) (by omega)) (by omega) hc) ?_
    refine g_app (j0 := 1) (j := 1) (d := .str (tx (st.take q5.1.toNat ++ [c] ++ st.drop q5.1.toNat))) (ev_var rfl) rfl ((ev_addT (ev_addT (ev_slX (ev_var rfl) eo_none (eo_some (ev_var rfl)) (by omega)) (ev_var rfl) ?_) (ev_slX (ev_var rfl) (eo_some (ev_var rfl)) eo_none (by omega)) ?_).to ?_) rfl (by rw [stD_len]; omega) (g_jp ⟨ss ++ [tx (st.take q5.1.toNat ++ [c] ++ st.drop q5.1.toNat)], _, _, rfl, ?_, by rw [List.length_append, hl2]; rfl, fun s h => ?_, key_snoc hk ?_⟩)
    · have := cut_len st none (some q5.1)
      simp
      omega
    · have h1 := cut_len st none (some q5.1)
      have h2 := cut_len st (some q5.1) none
      rw [List.length_append]
      simp
      omega
    · rw [cut_to' t7.1, cut_from t7.1 hpl]
    · exact congrArg (fun z => [(a, Nd.lst (Pl.ds q5.2)), (b, Nd.lst z)]) (stD_app ss [_])
    · rcases List.mem_append.mp h with h | h
      · exact hs s h
      · rw [List.mem_singleton.mp h]
        refine nm_mid hl _ (by omega) hst.symm (by omega) (fun h0 => ?_) ?_
        · have : (q5.1 == 0) = true := beq_iff_eq.mpr (by omega)
          rw [if_pos this] at htl
          rw [htl]
          exact hm2
        · rw [← htl] at hm2
          split at hm2
          · exact List.mem_append_left _ hm2
          · exact hm2
    · rw [hl2, at_get hz hc, tx_cps, List.append_assoc, List.getElem?_append_right (by rw [List.length_take]; omega), List.length_take, Nat.min_eq_left (by omega), Nat.sub_self]
      rfl
  · subst e1 e2
    rw [List.length_map, List.length_range] at hl2
    have hnd : ss.Nodup := key_nd hk fun i j h1 h2 => by
      have hl36 : tl = letL ∨ tl = letL ++ digL := by
        rw [← htl]
        split
        · exact .inl rfl
        · exact .inr rfl
      rcases hl36 with q | q
      · subst q
        rw [let_len]
        exact nd_inj let_nd (by rw [let_len]; omega) (by omega)
      · rw [q, sig_len]
        exact nd_inj sig_nd (by rw [sig_len]; omega) (by omega)
    exact Gp.frz (i := 11) (j := 1) rfl rfl (g_ret hR (ev_var rfl) ⟨ss, _, rfl, rfl, hp5.up (by omega), hl2, hs, hnd⟩)
end
def ct_law_tree (d : Nat) (K : PySem.W.Frag) : Ct := Ct3 fun s b c ka out => ∃ a p n ls dd, s = .val (.adr a) ∧ b = .val (.lst (stD ls)) ∧ c = .val (.int ((dd : Nat) : Int)) ∧ ka = [(a, .lst (Pl.ds p))] ∧ p.Ok n ∧ 0 ≤ n ∧ n + ((8 * 2 ^ dd : Nat) : Int) ≤ 900000 ∧ dd < d ∧ ls ≠ [] ∧ ls.length ≤ 100 ∧ (∀ x ∈ ls, isNm x = true) ∧
  out = fun o k => ∃ t p', o = .ret (Tr.d true t) ∧ k = [(a, .lst (Pl.ds p'))] ∧ p'.Ok (n + ((8 * 2 ^ dd : Nat) : Int) - 1) ∧ t.dep ≤ dd ∧ niceT t ∧ ∀ x ∈ t.nms, x ∈ ls
theorem ct_law_tree_zero (K : PySem.W.Frag) : ∀ ws ka out, ¬ ct_law_tree 0 K ws ka out := fun ws ka out ⟨_, _, _, _, a, p, n, ls, dd, _, _, _, _, _, _, _, hd, _⟩ => absurd hd (Nat.not_lt_zero _)
section
variable {P : Program} {w : World} {K : PySem.W.Frag} {mg : Str → Option Value} {base : Heap}
theorem ok_law_tree (T : Tx K mg) (F_law_take : Fn P w K mg base 4 (He.ga K "_law_take") ["_law_pool_here", "_law_many"] (ct_law_take K)) : ∀ d : Nat, Fn P w K mg base (2 * d + 6) (He.ga K "_law_tree") ["_law_pool_here", "_law_lanes", "_law_depth"] (ct_law_tree d K) := by
  obtain ⟨fd, F⟩ := T.d_law_tree
  intro d
  induction d with
  | zero => exact fn_vac F sc_law_tree (fun _ _ _ _ _ _ us hl => match us, hl with | [_, _, _], _ => rfl) (ct_law_tree_zero K)
  | succ d F_law_tree => ?_
  refine fn_ok F sc_law_tree (fun _ _ _ _ _ _ us hl => match us, hl with | [_, _, _], _ => rfl) ct3_len (fun cdv A outer s H E hr => ⟨_, (pss_cons (ps_set (i := 3) sc_law_tree.nd rfl (by first | exact Or.inl rfl | exact Or.inr rfl) (pe_call (F_law_take.up (by omega)).ok hr rfl T.g_law_take.1 T.g_law_take.2 (F_law_take.up (by omega)).bn .nil (pass_own rfl rfl rfl rfl) (pa_cons (pv 0) (pa_cons pe_int pa_nil))))
      (pss_cons (ps_if (PW.pt (pw_or (pt_cmpR (op_eqP (by have := (hr).units; exact this)) (pv 2) pe_int (nomark _)) (pw_or1 (pt_cmpR op_lt (pv 3) pe_int (nomark _)))))
      (pss_cons (ps_set (i := 4) sc_law_tree.nd rfl (by first | exact Or.inl rfl | exact Or.inr rfl) (pe_op op_addU pe_int (pe_op op_mulU (pe_call (F_law_take.up (by omega)).ok hr rfl T.g_law_take.1 T.g_law_take.2 (F_law_take.up (by omega)).bn .nil (pass_own rfl rfl rfl rfl) (pa_cons (pv 0) (pa_cons pe_int pa_nil))) (pe_call (F_law_take.up (by omega)).ok hr rfl T.g_law_take.1 T.g_law_take.2 (F_law_take.up (by omega)).bn .nil (pass_own rfl rfl rfl rfl) (pa_cons (pv 0) (pa_cons pe_int pa_nil))))))
      (pss_cons (ps_setLc (i := 6) (te := (tOp (rIx K) (tVar 1) (tCall (spC K (ct_law_take K)) [] (fun _ _ _ => False) (tCons (tVar 0) (tCons (tCB (rLenU K) (tCons (tVar 1) tNil)) tNil))))) (tt := tYes) (own := [("_law_k", 5)]) rfl sc_law_tree.nd rfl rfl rfl (pi_range1 rfl T.n_range (pa_cons (pv 4) pa_nil)) (blk_ok ["_law_pool_here", "_law_lanes", "_law_depth", "_law_kind", "_law_many", "_law_k", "_law_some", "_law_one", "_law_two"] (defScope s_law_tree) rfl rfl (by decide +kernel)) (fun _ _ _ _ _ => (pg_name (i := 5) sc_law_tree.nd rfl (by first | exact Or.inl rfl | exact Or.inr rfl))) (fun _ _ _ _ _ => pts_nil) (fun _ _ _ _ _ => (pe_ix ix_seq (pv 1) (pe_call (F_law_take.up (by omega)).ok hr rfl T.g_law_take.1 T.g_law_take.2 (F_law_take.up (by omega)).bn .nil passes_no (pa_cons (pv 0) (pa_cons (pe_callB call_lenU rfl T.n_len (by decide +kernel) (pa_cons (pv 1) pa_nil)) pa_nil))) fun _ _ => rfl)))
      (pss_cons (ps_if (pt_cmpR op_gt (pe_call (F_law_take.up (by omega)).ok hr rfl T.g_law_take.1 T.g_law_take.2 (F_law_take.up (by omega)).bn .nil (pass_own rfl rfl rfl rfl) (pa_cons (pv 0) (pa_cons pe_int pa_nil))) pe_int (nomark _))
      (pss_one (ps_ret (pe_tup (pa_cons pe_str (pa_cons (pv 6) pa_nil)))))
      pss_nil)
      (pss_one (ps_ret (pe_tup (pa_cons pe_str (pa_cons (pe_slice sl_U (pv 6) (po_some (pe_call (F_law_take.up (by omega)).ok hr rfl T.g_law_take.1 T.g_law_take.2 (F_law_take.up (by omega)).bn .nil (pass_own rfl rfl rfl rfl) (pa_cons (pv 0) (pa_cons pe_int pa_nil)))) po_none) pa_nil))))))))
      pss_nil)
      (pss_cons (ps_set (i := 7) sc_law_tree.nd rfl (by first | exact Or.inl rfl | exact Or.inr rfl) (pe_call (F_law_tree.up (by omega)).ok hr rfl T.g_law_tree.1 T.g_law_tree.2 (F_law_tree.up (by omega)).bn .nil (pass_own rfl rfl rfl rfl) (pa_cons (pv 0) (pa_cons (pv 1) (pa_cons (pe_op op_sub (pv 2) pe_int) pa_nil)))))
      (pss_cons (ps_if (pt_cmpR (op_eqP (by have := (hr).units; exact this)) (pv 3) pe_int (nomark _))
      (pss_one (ps_ret (pe_tup (pa_cons pe_str (pa_cons (pv 7) pa_nil)))))
      pss_nil)
      (pss_cons (ps_if (pt_cmpR (op_eqP (by have := (hr).units; exact this)) (pv 3) pe_int (nomark _))
      (pss_one (ps_ret (pe_tup (pa_cons pe_str (pa_cons (pv 7) pa_nil)))))
      pss_nil)
      (pss_cons (ps_set (i := 8) sc_law_tree.nd rfl (by first | exact Or.inl rfl | exact Or.inr rfl) (pe_call (F_law_tree.up (by omega)).ok hr rfl T.g_law_tree.1 T.g_law_tree.2 (F_law_tree.up (by omega)).bn .nil (pass_own rfl rfl rfl rfl) (pa_cons (pv 0) (pa_cons (pv 1) (pa_cons (pe_op op_sub (pv 2) pe_int) pa_nil)))))
      (pss_cons (ps_if (pt_cmpR (op_eqP (by have := (hr).units; exact this)) (pv 3) pe_int (nomark _))
      (pss_one (ps_ret (pe_tup (pa_cons pe_str (pa_cons (pv 7) (pa_cons (pv 8) pa_nil))))))
      pss_nil)
      (pss_one (ps_ret (pe_tup (pa_cons pe_str (pa_cons (pv 7) (pa_cons (pv 8) pa_nil))))))))))))), fun ws ka out B F0 Q hC hR hX => ?_⟩)
  obtain ⟨s, b, c, rfl, a, p, n, ls, dd, rfl, rfl, rfl, rfl, hp, hn0, hn, hd, hne, hl, hnm, rfl⟩ := hC
  have pw : 1 ≤ 2 ^ dd := Nat.one_le_two_pow
  have pe : ∀ e, dd = e + 1 → 8 * 2 ^ dd = 8 * 2 ^ e + 8 * 2 ^ e := fun e h => by rw [h, Nat.pow_succ]; omega
  generalize hB : 8 * 2 ^ dd = B at *
  have hB8 : 8 ≤ B := by omega
  have t1 := tk_lt p (m := 8) (by decide)
  have o1 := tk_ok hp (m := 8) (by decide)
  refine q_asg (ev_take (kr := []) (ev_var rfl) ev_int (hp.up (by omega)) (by decide) (by decide)) ?_
  generalize (tk p 8).2 = p1 at *
  generalize (tk p 8).1 = kind at *
  refine q_when (et_or (et_test (ev_eqI (ev_var rfl) ev_int)) (fun _ => et_test (ev_lt (ev_var rfl) ev_int))) (fun _ => ?_) (fun hb => ?_)
  · have t2 := tk_lt p1 (m := 2) (by decide)
    have o2 := tk_ok o1 (m := 2) (by decide)
    have t3 := tk_lt (tk p1 2).2 (m := 2) (by decide)
    have o3 := tk_ok o2 (m := 2) (by decide)
    obtain ⟨m, hm, hm2⟩ : ∃ m : Nat, 1 + (tk p1 2).1 * (tk (tk p1 2).2 2).1 = ((m + 1 : Nat) : Int) ∧ m + 1 ≤ 2 := by
      have h1 : (tk p1 2).1 = 0 ∨ (tk p1 2).1 = 1 := by omega
      have h2 : (tk (tk p1 2).2 2).1 = 0 ∨ (tk (tk p1 2).2 2).1 = 1 := by omega
      rcases h1 with h1 | h1 <;> rcases h2 with h2 | h2 <;> rw [h1, h2]
      · exact ⟨0, rfl, by omega⟩
      · exact ⟨0, rfl, by omega⟩
      · exact ⟨0, rfl, by omega⟩
      · exact ⟨1, rfl, by omega⟩
    refine q_asg ((ev_addI ev_int (ev_mulI (ev_take (kr := []) (ev_var rfl) ev_int (o1.up (by omega)) (by decide) (by decide)) (ev_take (kr := []) (ev_var rfl) ev_int (o2.up (by omega)) (by decide) (by decide)) (by
      have h1 : (tk p1 2).1 = 0 ∨ (tk p1 2).1 = 1 := by omega
      rcases h1 with h1 | h1 <;> rw [h1] <;> exact .of_left (by decide)))).to (by rw [hm])) ?_
    generalize (tk (tk p1 2).2 2).2 = p3 at *
    refine q_asgNR (evr_lc (ei_range1 (ea1 (ev_var rfl)) (by omega) (by omega)) (by decide) (by simp; omega) (fun i acc k => ∃ gs p', acc = stD gs ∧ gs.length = i ∧ (∀ g ∈ gs, g ∈ ls) ∧ k = [(a, .lst (Pl.ds p'))] ∧ p'.Ok (n + 3 + i)) ⟨[], p3, rfl, rfl, fun _ h => (by cases h), rfl, o3.up (by omega)⟩ (fun i acc k _ => ⟨trivial, fun _ => trivial⟩) (fun i w acc k hw ⟨gs, p', e1, e2, e3, e4, hp'⟩ => ?hs)) (fun nd k1 c ⟨acc, e0, gs, p', e1, e2, e3, e4, hp'⟩ => ?go)
    case hs =>
      subst e1 e4
      have hi : i < m + 1 := by
        have := (List.getElem?_eq_some_iff.mp hw).1
        simpa using this
      exact .inr ⟨_, _, .str (drawS p' ls), et_yes, ev_draw (kr := []) (ev_var rfl) (ev_var rfl) (ev_var rfl) (hp'.up (by omega)) hne (by omega), gs ++ [drawS p' ls], _, stD_app gs [drawS p' ls], by rw [List.length_append, e2]; rfl, fun g hg => by
        rcases List.mem_append.mp hg with hg | hg
        · exact e3 g hg
        · rw [List.mem_singleton.mp hg]; exact drawS_mem hne p', rfl, (drawP_ok hp' hne).up (by push_cast; omega)⟩
    case go =>
      subst e0 e1 e4
      have gl : gs.length = m + 1 := by rw [e2]; simp
      rw [gl] at e2
      have hp4 : p'.Ok (n + 5) := hp'.up (by rw [List.length_map, List.length_range]; omega)
      have t4 := tk_lt p' (m := 3) (by decide)
      have o4 := tk_ok hp4 (m := 3) (by decide)
      refine Gp.frz (i := 6) (j := 1) rfl rfl ?_
      refine q_when (et_test (ev_gt (ev_take (kr := []) (ev_var rfl) ev_int (hp4.up (by omega)) (by decide) (by decide)) ev_int)) (fun _ => ?_) (fun _ => ?_)
      · exact g_ret hR (ev_tup (ds := [.str "any", .lst (stD gs)]) (ea2 ev_str (ev_var rfl)) (Nat.le_of_ble_eq_true rfl)) ⟨.at true gs, _, rfl, rfl, o4.up (by omega), Nat.zero_le _, ⟨by omega, fun _ z => by rw [z] at gl; simp at gl, fun g hg => hnm g (e3 g hg)⟩, e3⟩
      · have t5 := tk_lt (tk p' 3).2 (m := 2) (by decide)
        have o5 := tk_ok o4 (m := 2) (by decide)
        obtain ⟨j, hj⟩ : ∃ j : Nat, (tk (tk p' 3).2 2).1 = (j : Int) := ⟨(tk (tk p' 3).2 2).1.toNat, by omega⟩
        have cut : cutD (stD gs) (some (tk (tk p' 3).2 2).1) none = stD (gs.drop j) := by
          rw [hj, cut_from (by omega) (by rw [stD_len]; omega)]
          unfold stD
          rw [Int.toNat_natCast, List.map_drop]
        refine g_ret hR (ev_tup (ds := [.str "none", .lst (stD (gs.drop j))]) (ea2 ev_str ((evn_sl (ev_var rfl) (eo_some (ev_take (kr := []) (ev_var rfl) ev_int (o4.up (by omega)) (by decide) (by decide))) eo_none .vl).lst.to (by rw [cut]))) (Nat.le_of_ble_eq_true rfl)) ⟨.at false (gs.drop j), _, rfl, rfl, o5.up (by omega), Nat.zero_le _, ⟨by rw [List.length_drop]; omega, fun z => absurd z (by decide), fun g hg => hnm g (e3 g (List.mem_of_mem_drop hg))⟩, fun x hx => e3 x (List.mem_of_mem_drop hx)⟩
  · obtain ⟨e, he⟩ : ∃ e, dd = e + 1 := by
      cases dd with
      | zero => simp at hb
      | succ e => exact ⟨e, rfl⟩
    have hBe := pe e he
    refine q_call (kr := []) (ea3 (ev_var rfl) (ev_var rfl) ((ev_subI (ev_var rfl) ev_int).to (w' := .val (.int ((e : Nat) : Int))) (by rw [he]; exact congrArg (fun z => W.val (.int z)) (by omega)))) ⟨_, _, _, rfl, a, p1, n + 1, ls, e, rfl, rfl, rfl, rfl, o1, by omega, by omega, by omega, hne, hl, hnm, rfl⟩ (fun o k ⟨t, p', h, _⟩ => ⟨_, h⟩) (fun d1 k1 ⟨t, p2, h1, h2, o2, td, tn, tm⟩ => ?_)
    cases h1
    subst h2
    refine q_when (et_test (ev_eqI (ev_var rfl) ev_int)) (fun _ => ?_) (fun _ => ?_)
    · exact g_ret hR (ev_tup (ds := [.str "repeat", t.d true]) (ea2 ev_str (ev_var rfl)) (Nat.le_of_ble_eq_true rfl)) ⟨.rep t, p2, rfl, rfl, o2.up (by omega), by rw [he]; exact Nat.succ_le_succ td, tn, tm⟩
    refine q_when (et_test (ev_eqI (ev_var rfl) ev_int)) (fun _ => ?_) (fun _ => ?_)
    · exact g_ret hR (ev_tup (ds := [.str "option", t.d true]) (ea2 ev_str (ev_var rfl)) (Nat.le_of_ble_eq_true rfl)) ⟨.opt t, p2, rfl, rfl, o2.up (by omega), by rw [he]; exact Nat.succ_le_succ td, tn, tm⟩
    refine q_call (kr := []) (ea3 (ev_var rfl) (ev_var rfl) ((ev_subI (ev_var rfl) ev_int).to (w' := .val (.int ((e : Nat) : Int))) (by rw [he]; exact congrArg (fun z => W.val (.int z)) (by omega)))) ⟨_, _, _, rfl, a, p2, _, ls, e, rfl, rfl, rfl, rfl, o2, by omega, by omega, by omega, hne, hl, hnm, rfl⟩ (fun o k ⟨t, p', h, _⟩ => ⟨_, h⟩) (fun d1 k1 ⟨u, p3, h1, h2, o3, ud, un, um⟩ => ?_)
    cases h1
    subst h2
    have both : ∀ x ∈ t.nms ++ u.nms, x ∈ ls := fun x hx => (List.mem_append.mp hx).elim (tm x) (um x)
    have dep2 : max t.dep u.dep + 1 ≤ dd := by omega
    refine q_when (et_test (ev_eqI (ev_var rfl) ev_int)) (fun _ => ?_) (fun _ => ?_)
    · exact g_ret hR (ev_tup (ds := [.str "either", t.d true, u.d true]) (ea3 ev_str (ev_var rfl) (ev_var rfl)) (Nat.le_of_ble_eq_true rfl)) ⟨.either t u, p3, rfl, rfl, o3.up (by omega), dep2, ⟨tn, un⟩, both⟩
    · exact g_ret hR (ev_tup (ds := [.str "join", t.d true, u.d true]) (ea3 ev_str (ev_var rfl) (ev_var rfl)) (Nat.le_of_ble_eq_true rfl)) ⟨.join t u, p3, rfl, rfl, o3.up (by omega), dep2, ⟨tn, un⟩, both⟩
end
def ct_law_atom (K : PySem.W.Frag) : Ct := Ct2 fun a b ka out => ∃ (k : Bool) (ns : List Str), a = .val (.str (kdS k)) ∧ b = .val (.lst (stD ns)) ∧ ns.length ≤ 3 ∧ (k = true → ns ≠ []) ∧ (∀ n ∈ ns, isNm n = true) ∧ ka = [] ∧ out = Rt (PaD K ((Tr.at k ns).d false)) []
section
variable {P : Program} {w : World} {K : PySem.W.Frag} {mg : Str → Option Value} {base : Heap}
theorem ok_law_atom (T : Tx K mg) (F_any_of : FnV P w K mg base 8 (He.ga K "any_of") (ct_any_of K)) (F_none_of : FnV P w K mg base 8 (He.ga K "none_of") (ct_none_of K)) : Fn P w K mg base 10 (He.ga K "_law_atom") ["_law_kind", "_law_names_here"] (ct_law_atom K) := by
  obtain ⟨fd, F⟩ := T.d_law_atom
  refine fn_ok F sc_law_atom (fun _ _ _ _ _ _ us hl => match us, hl with | [_, _], _ => rfl) ct2_len (fun cdv A outer s H E hr => ⟨_, (pss_cons (ps_if (pt_cmpR (op_eqP (by have := (hr).units; exact this)) (pe_callB call_lenU rfl T.n_len (by decide +kernel) (pa_cons (pv 1) pa_nil)) pe_int (nomark _))
      (pss_one (ps_ret (pe_callS0 (F_none_of.up (by decide)) hr rfl T.g_none_of.1 T.g_none_of.2 (pass_own rfl rfl rfl rfl))))
      pss_nil)
      (pss_cons (ps_if (pt_cmpR (op_eqP (by have := (hr).units; exact this)) (pe_callB call_lenU rfl T.n_len (by decide +kernel) (pa_cons (pv 1) pa_nil)) pe_int (nomark _))
      (pss_one (ps_ret (pe_ifExp (pt_cmpR (op_eqP (by have := (hr).units; exact this)) (pv 0) pe_str (nomark _)) (pe_callS (F_any_of.up (by decide)) hr rfl T.g_any_of.1 T.g_any_of.2 (pass_own rfl rfl rfl rfl) (pa_cons (pe_ix ix_seq (pv 1) pe_int fun _ _ => rfl) pa_nil)) (pe_callS (F_none_of.up (by decide)) hr rfl T.g_none_of.1 T.g_none_of.2 (pass_own rfl rfl rfl rfl) (pa_cons (pe_ix ix_seq (pv 1) pe_int fun _ _ => rfl) pa_nil)))))
      pss_nil)
      (pss_cons (ps_if (pt_cmpR (op_eqP (by have := (hr).units; exact this)) (pe_callB call_lenU rfl T.n_len (by decide +kernel) (pa_cons (pv 1) pa_nil)) pe_int (nomark _))
      (pss_one (ps_ret (pe_ifExp (pt_cmpR (op_eqP (by have := (hr).units; exact this)) (pv 0) pe_str (nomark _)) (pe_callS (F_any_of.up (by decide)) hr rfl T.g_any_of.1 T.g_any_of.2 (pass_own rfl rfl rfl rfl) (pa_cons (pe_ix ix_seq (pv 1) pe_int fun _ _ => rfl) (pa_cons (pe_ix ix_seq (pv 1) pe_int fun _ _ => rfl) pa_nil))) (pe_callS (F_none_of.up (by decide)) hr rfl T.g_none_of.1 T.g_none_of.2 (pass_own rfl rfl rfl rfl) (pa_cons (pe_ix ix_seq (pv 1) pe_int fun _ _ => rfl) (pa_cons (pe_ix ix_seq (pv 1) pe_int fun _ _ => rfl) pa_nil))))))
      pss_nil)
      (pss_one (ps_ret (pe_ifExp (pt_cmpR (op_eqP (by have := (hr).units; exact this)) (pv 0) pe_str (nomark _)) (pe_callS (F_any_of.up (by decide)) hr rfl T.g_any_of.1 T.g_any_of.2 (pass_own rfl rfl rfl rfl) (pa_cons (pe_ix ix_seq (pv 1) pe_int fun _ _ => rfl) (pa_cons (pe_ix ix_seq (pv 1) pe_int fun _ _ => rfl) (pa_cons (pe_ix ix_seq (pv 1) pe_int fun _ _ => rfl) pa_nil)))) (pe_callS (F_none_of.up (by decide)) hr rfl T.g_none_of.1 T.g_none_of.2 (pass_own rfl rfl rfl rfl) (pa_cons (pe_ix ix_seq (pv 1) pe_int fun _ _ => rfl) (pa_cons (pe_ix ix_seq (pv 1) pe_int fun _ _ => rfl) (pa_cons (pe_ix ix_seq (pv 1) pe_int fun _ _ => rfl) pa_nil)))))))))), fun ws ka out B F0 Q hC hR hX => ?_⟩)
  obtain ⟨a, b, rfl, k, ns, rfl, rfl, hl, hne, hn, rfl, rfl⟩ := hC
  match ns, hl, hne, hn with
  | [], _, hne, _ =>
    obtain rfl : k = false := by cases k with
      | false => rfl
      | true => exact absurd rfl (hne rfl)
    refine q_when ((et_test (ev_eqI (ev_len (ev_var rfl) .vl) ev_int)).to (b := true) rfl) (fun _ => ?_) (fun z => by cases z)
    exact g_ret hR (ev_callP ea_nil ⟨[], rfl, Nat.zero_le _, _, rfl, [], rfl, by simp, rfl, rfl⟩) ⟨rfl, rfl⟩
  | [x], _, _, hn =>
    refine q_when ((et_test (ev_eqI (ev_len (ev_var rfl) .vl) ev_int)).to (b := false) rfl) (fun z => by cases z) (fun _ => ?_)
    refine q_when ((et_test (ev_eqI (ev_len (ev_var rfl) .vl) ev_int)).to (b := true) rfl) (fun _ => ?_) (fun z => by cases z)
    cases k with
    | true => exact g_ret hR (ev_ifT ((et_test (ev_eqS (ev_var rfl) ev_str)).to (by decide)) (ev_callP (ea1 (ev_ixV (ev_var rfl) ev_int .vl at0)) ⟨stD [x], rfl, Nat.le_of_ble_eq_true rfl, _, rfl, [x], rfl, List.cons_ne_nil _ _, hn, rfl, rfl⟩)) ⟨rfl, rfl⟩
    | false => exact g_ret hR (ev_ifF ((et_test (ev_eqS (ev_var rfl) ev_str)).to (by decide)) (ev_callP (ea1 (ev_ixV (ev_var rfl) ev_int .vl at0)) ⟨stD [x], rfl, Nat.le_of_ble_eq_true rfl, _, rfl, [x], rfl, hn, rfl, rfl⟩)) ⟨rfl, rfl⟩
  | [x, y], _, _, hn =>
    refine q_when ((et_test (ev_eqI (ev_len (ev_var rfl) .vl) ev_int)).to (b := false) rfl) (fun z => by cases z) (fun _ => ?_)
    refine q_when ((et_test (ev_eqI (ev_len (ev_var rfl) .vl) ev_int)).to (b := false) rfl) (fun z => by cases z) (fun _ => ?_)
    refine q_when ((et_test (ev_eqI (ev_len (ev_var rfl) .vl) ev_int)).to (b := true) rfl) (fun _ => ?_) (fun z => by cases z)
    cases k with
    | true => exact g_ret hR (ev_ifT ((et_test (ev_eqS (ev_var rfl) ev_str)).to (by decide)) (ev_callP (ea2 (ev_ixV (ev_var rfl) ev_int .vl at0) (ev_ixV (ev_var rfl) ev_int .vl (atI_nat (j := 1) rfl))) ⟨stD [x, y], rfl, Nat.le_of_ble_eq_true rfl, _, rfl, [x, y], rfl, List.cons_ne_nil _ _, hn, rfl, rfl⟩)) ⟨rfl, rfl⟩
    | false => exact g_ret hR (ev_ifF ((et_test (ev_eqS (ev_var rfl) ev_str)).to (by decide)) (ev_callP (ea2 (ev_ixV (ev_var rfl) ev_int .vl at0) (ev_ixV (ev_var rfl) ev_int .vl (atI_nat (j := 1) rfl))) ⟨stD [x, y], rfl, Nat.le_of_ble_eq_true rfl, _, rfl, [x, y], rfl, hn, rfl, rfl⟩)) ⟨rfl, rfl⟩
  | [x, y, z], _, _, hn =>
    refine q_when ((et_test (ev_eqI (ev_len (ev_var rfl) .vl) ev_int)).to (b := false) rfl) (fun z => by cases z) (fun _ => ?_)
    refine q_when ((et_test (ev_eqI (ev_len (ev_var rfl) .vl) ev_int)).to (b := false) rfl) (fun z => by cases z) (fun _ => ?_)
    refine q_when ((et_test (ev_eqI (ev_len (ev_var rfl) .vl) ev_int)).to (b := false) rfl) (fun z => by cases z) (fun _ => ?_)
    cases k with
    | true => exact g_ret hR (ev_ifT ((et_test (ev_eqS (ev_var rfl) ev_str)).to (by decide)) (ev_callP (ea3 (ev_ixV (ev_var rfl) ev_int .vl at0) (ev_ixV (ev_var rfl) ev_int .vl (atI_nat (j := 1) rfl)) (ev_ixV (ev_var rfl) ev_int .vl (atI_nat (j := 2) rfl))) ⟨stD [x, y, z], rfl, Nat.le_of_ble_eq_true rfl, _, rfl, [x, y, z], rfl, List.cons_ne_nil _ _, hn, rfl, rfl⟩)) ⟨rfl, rfl⟩
    | false => exact g_ret hR (ev_ifF ((et_test (ev_eqS (ev_var rfl) ev_str)).to (by decide)) (ev_callP (ea3 (ev_ixV (ev_var rfl) ev_int .vl at0) (ev_ixV (ev_var rfl) ev_int .vl (atI_nat (j := 1) rfl)) (ev_ixV (ev_var rfl) ev_int .vl (atI_nat (j := 2) rfl))) ⟨stD [x, y, z], rfl, Nat.le_of_ble_eq_true rfl, _, rfl, [x, y, z], rfl, hn, rfl, rfl⟩)) ⟨rfl, rfl⟩
end
def ct_law_pattern (d : Nat) (K : PySem.W.Frag) : Ct := Ct1 fun a ka out => ∃ t : Tr, a = .val (t.d true) ∧ t.dep < d ∧ niceT t ∧ ka = [] ∧ out = Rt (PaD K (t.d false)) []
theorem ct_law_pattern_zero (K : PySem.W.Frag) : ∀ ws ka out, ¬ ct_law_pattern 0 K ws ka out := fun ws ka out ⟨_, _, t, _, hd, _⟩ => absurd hd (Nat.not_lt_zero _)
section
variable {P : Program} {w : World} {K : PySem.W.Frag} {mg : Str → Option Value} {base : Heap}
theorem ok_law_pattern (T : Tx K mg) (F_Pattern___add : Fn P w K mg base 6 (He.ma K (He.ga K "Pattern") "__add__") ["self", "other"] (ct_Pattern___add K)) (F_Pattern___or : Fn P w K mg base 6 (He.ma K (He.ga K "Pattern") "__or__") ["self", "other"] (ct_Pattern___or K)) (F_repeated : Fn P w K mg base 6 (He.ga K "repeated") ["pattern"] (ct_repeated K)) (F_optional : Fn P w K mg base 6 (He.ga K "optional") ["pattern"] (ct_optional K)) (F_law_atom : Fn P w K mg base 10 (He.ga K "_law_atom") ["_law_kind", "_law_names_here"] (ct_law_atom K)) : ∀ d : Nat, Fn P w K mg base (2 * d + 12) (He.ga K "_law_pattern") ["_law_tree_here"] (ct_law_pattern d K) := by
  obtain ⟨fd, F⟩ := T.d_law_pattern
  intro d
  induction d with
  | zero => exact fn_vac F sc_law_pattern (fun _ _ _ _ _ _ us hl => match us, hl with | [_], _ => rfl) (ct_law_pattern_zero K)
  | succ d F_law_pattern => ?_
  refine fn_ok F sc_law_pattern (fun _ _ _ _ _ _ us hl => match us, hl with | [_], _ => rfl) ct1_len (fun cdv A outer s H E hr => ⟨_, (pss_cons (ps_if (pt_cmpR op_inU (pe_ix ix_seq (pv 0) pe_int fun _ _ => rfl) (pe_tup (pa_cons pe_str (pa_cons pe_str pa_nil))) (by with_unfolding_all rfl))
      (pss_one (ps_ret (pe_call (F_law_atom.up (by omega)).ok hr rfl T.g_law_atom.1 T.g_law_atom.2 (F_law_atom.up (by omega)).bn .nil (pass_own rfl rfl rfl rfl) (pa_cons (pe_ix ix_seq (pv 0) pe_int fun _ _ => rfl) (pa_cons (pe_ix ix_seq (pv 0) pe_int fun _ _ => rfl) pa_nil)))))
      pss_nil)
      (pss_cons (ps_set (i := 1) sc_law_pattern.nd rfl (by first | exact Or.inl rfl | exact Or.inr rfl) (pe_call (F_law_pattern.up (by omega)).ok hr rfl T.g_law_pattern.1 T.g_law_pattern.2 (F_law_pattern.up (by omega)).bn .nil (pass_own rfl rfl rfl rfl) (pa_cons (pe_ix ix_seq (pv 0) pe_int fun _ _ => rfl) pa_nil)))
      (pss_cons (ps_if (pt_cmpR (op_eqP (by have := (hr).units; exact this)) (pe_ix ix_seq (pv 0) pe_int fun _ _ => rfl) pe_str (nomark _))
      (pss_one (ps_ret (pe_call (F_repeated.up (by omega)).ok hr rfl T.g_repeated.1 T.g_repeated.2 (F_repeated.up (by omega)).bn .nil (pass_own rfl rfl rfl rfl) (pa_cons (pv 1) pa_nil))))
      pss_nil)
      (pss_cons (ps_if (pt_cmpR (op_eqP (by have := (hr).units; exact this)) (pe_ix ix_seq (pv 0) pe_int fun _ _ => rfl) pe_str (nomark _))
      (pss_one (ps_ret (pe_call (F_optional.up (by omega)).ok hr rfl T.g_optional.1 T.g_optional.2 (F_optional.up (by omega)).bn .nil (pass_own rfl rfl rfl rfl) (pa_cons (pv 1) pa_nil))))
      pss_nil)
      (pss_cons (ps_set (i := 2) sc_law_pattern.nd rfl (by first | exact Or.inl rfl | exact Or.inr rfl) (pe_call (F_law_pattern.up (by omega)).ok hr rfl T.g_law_pattern.1 T.g_law_pattern.2 (F_law_pattern.up (by omega)).bn .nil (pass_own rfl rfl rfl rfl) (pa_cons (pe_ix ix_seq (pv 0) pe_int fun _ _ => rfl) pa_nil)))
      (pss_one (ps_ret (pe_ifExp (pt_cmpR (op_eqP (by have := (hr).units; exact this)) (pe_ix ix_seq (pv 0) pe_int fun _ _ => rfl) pe_str (nomark _)) (pe_op (op_owB T.bo_Pattern_BitOr (F_Pattern___or.up (by omega)) hr (pass_own rfl rfl rfl rfl)) (pv 1) (pv 2)) (pe_op (op_owB T.bo_Pattern_Add (F_Pattern___add.up (by omega)) hr (pass_own rfl rfl rfl rfl)) (pv 1) (pv 2)))))))))), fun ws ka out B F0 Q hC hR hX => ?_⟩)
  obtain ⟨a, rfl, t, rfl, hd, hn, rfl, rfl⟩ := hC
  cases t with
  | «at» kd ns =>
    refine q_when (b := true) ((et_test (ev_inL (ss := ["any", "none"]) (ev_ixV (ev_var rfl) ev_int .vt at0) (ev_tup (ds := stD ["any", "none"]) (ea2 ev_str ev_str) (Nat.le_of_ble_eq_true rfl)) .vt)).to (by cases kd <;> decide)) (fun _ => ?_) (fun z => by cases z)
    exact g_ret hR (ev_callP (ea2 (ev_ixV (ev_var rfl) ev_int .vt at0) (ev_ixV (ev_var rfl) ev_int .vt (atI_nat (j := 1) rfl))) ⟨_, _, rfl, kd, ns, rfl, rfl, hn.1, hn.2.1, hn.2.2, rfl, rfl⟩) ⟨rfl, rfl⟩
  | rep x =>
    have hx : x.dep + 1 < d + 1 := hd
    refine q_when (b := false) ((et_test (ev_inL (ss := ["any", "none"]) (ev_ixV (ev_var rfl) ev_int .vt at0) (ev_tup (ds := stD ["any", "none"]) (ea2 ev_str ev_str) (Nat.le_of_ble_eq_true rfl)) .vt)).to (by decide)) (fun z => by cases z) (fun _ => ?_)
    refine q_asg (ev_callP (ea1 (ev_ixV (ev_var rfl) ev_int .vt (atI_nat (j := 1) rfl))) ⟨_, rfl, x, rfl, by omega, hn, rfl, rfl⟩) ?_
    refine q_when (b := true) ((et_test (ev_eqS (ev_ixV (ev_var rfl) ev_int .vt at0) ev_str)).to (by decide)) (fun _ => ?_) (fun z => by cases z)
    exact g_ret hR (ev_callP (ea1 (ev_var rfl)) ⟨_, rfl, x, rfl, rfl, rfl⟩) ⟨rfl, rfl⟩
  | opt x =>
    have hx : x.dep + 1 < d + 1 := hd
    refine q_when (b := false) ((et_test (ev_inL (ss := ["any", "none"]) (ev_ixV (ev_var rfl) ev_int .vt at0) (ev_tup (ds := stD ["any", "none"]) (ea2 ev_str ev_str) (Nat.le_of_ble_eq_true rfl)) .vt)).to (by decide)) (fun z => by cases z) (fun _ => ?_)
    refine q_asg (ev_callP (ea1 (ev_ixV (ev_var rfl) ev_int .vt (atI_nat (j := 1) rfl))) ⟨_, rfl, x, rfl, by omega, hn, rfl, rfl⟩) ?_
    refine q_when (b := false) ((et_test (ev_eqS (ev_ixV (ev_var rfl) ev_int .vt at0) ev_str)).to (by decide)) (fun z => by cases z) (fun _ => ?_)
    refine q_when (b := true) ((et_test (ev_eqS (ev_ixV (ev_var rfl) ev_int .vt at0) ev_str)).to (by decide)) (fun _ => ?_) (fun z => by cases z)
    exact g_ret hR (ev_callP (ea1 (ev_var rfl)) ⟨_, rfl, x, rfl, rfl, rfl⟩) ⟨rfl, rfl⟩
  | either x y =>
    have hx : max x.dep y.dep + 1 < d + 1 := hd
    refine q_when (b := false) ((et_test (ev_inL (ss := ["any", "none"]) (ev_ixV (ev_var rfl) ev_int .vt at0) (ev_tup (ds := stD ["any", "none"]) (ea2 ev_str ev_str) (Nat.le_of_ble_eq_true rfl)) .vt)).to (by decide)) (fun z => by cases z) (fun _ => ?_)
    refine q_asg (ev_callP (ea1 (ev_ixV (ev_var rfl) ev_int .vt (atI_nat (j := 1) rfl))) ⟨_, rfl, x, rfl, by omega, hn.1, rfl, rfl⟩) ?_
    refine q_when (b := false) ((et_test (ev_eqS (ev_ixV (ev_var rfl) ev_int .vt at0) ev_str)).to (by decide)) (fun z => by cases z) (fun _ => ?_)
    refine q_when (b := false) ((et_test (ev_eqS (ev_ixV (ev_var rfl) ev_int .vt at0) ev_str)).to (by decide)) (fun z => by cases z) (fun _ => ?_)
    refine q_asg (ev_callP (ea1 (ev_ixV (ev_var rfl) ev_int .vt (atI_nat (j := 2) rfl))) ⟨_, rfl, y, rfl, by omega, hn.2, rfl, rfl⟩) ?_
    exact g_ret hR (ev_ifT ((et_test (ev_eqS (ev_ixV (ev_var rfl) ev_int .vt at0) ev_str)).to (by decide)) (ev_opB (ev_var rfl) (ev_var rfl) .v .v ⟨_, _, rfl, x, y, rfl, rfl, rfl, rfl⟩)) ⟨rfl, rfl⟩
  | join x y =>
    have hx : max x.dep y.dep + 1 < d + 1 := hd
    refine q_when (b := false) ((et_test (ev_inL (ss := ["any", "none"]) (ev_ixV (ev_var rfl) ev_int .vt at0) (ev_tup (ds := stD ["any", "none"]) (ea2 ev_str ev_str) (Nat.le_of_ble_eq_true rfl)) .vt)).to (by decide)) (fun z => by cases z) (fun _ => ?_)
    refine q_asg (ev_callP (ea1 (ev_ixV (ev_var rfl) ev_int .vt (atI_nat (j := 1) rfl))) ⟨_, rfl, x, rfl, by omega, hn.1, rfl, rfl⟩) ?_
    refine q_when (b := false) ((et_test (ev_eqS (ev_ixV (ev_var rfl) ev_int .vt at0) ev_str)).to (by decide)) (fun z => by cases z) (fun _ => ?_)
    refine q_when (b := false) ((et_test (ev_eqS (ev_ixV (ev_var rfl) ev_int .vt at0) ev_str)).to (by decide)) (fun z => by cases z) (fun _ => ?_)
    refine q_asg (ev_callP (ea1 (ev_ixV (ev_var rfl) ev_int .vt (atI_nat (j := 2) rfl))) ⟨_, rfl, y, rfl, by omega, hn.2, rfl, rfl⟩) ?_
    exact g_ret hR (ev_ifF ((et_test (ev_eqS (ev_ixV (ev_var rfl) ev_int .vt at0) ev_str)).to (by decide)) (ev_opB (ev_var rfl) (ev_var rfl) .v .v ⟨_, _, rfl, x, y, rfl, rfl, rfl, rfl⟩)) ⟨rfl, rfl⟩
end
def ct_law_takes (K : PySem.W.Frag) : Ct := Ct2 fun a b ka out => ∃ (k : Bool) (ns : List Str) (x : Str), a = .val ((Tr.at k ns).d true) ∧ b = .val (.str x) ∧ ka = [] ∧ out = Rt (.bl (atB (k, ns) x)) []
section
variable {P : Program} {w : World} {K : PySem.W.Frag} {mg : Str → Option Value} {base : Heap}
theorem ok_law_takes (T : Tx K mg) : Fn P w K mg base 4 (He.ga K "_law_takes") ["_law_atom_here", "_law_lane"] (ct_law_takes K) := by
  obtain ⟨fd, F⟩ := T.d_law_takes
  refine fn_ok F sc_law_takes (fun _ _ _ _ _ _ us hl => match us, hl with | [_, _], _ => rfl) ct2_len (fun cdv A outer s H E hr => ⟨_, (pss_one (ps_ret (pe_cmpR (op_eqP (by have := (hr).units; exact this)) (pe_cmpR op_inU (pv 1) (pe_ix ix_seq (pv 0) pe_int fun _ _ => rfl) (by with_unfolding_all rfl)) (pe_cmpR (op_eqP (by have := (hr).units; exact this)) (pe_ix ix_seq (pv 0) pe_int fun _ _ => rfl) pe_str (nomark _)) (nomark _)))), fun ws ka out B F0 Q hC hR hX => ?_⟩)
  obtain ⟨a, b, rfl, k, ns, x, rfl, rfl, rfl, rfl⟩ := hC
  exact g_ret hR (ev_eqB (ev_inL (ss := ns) (ev_var rfl) (ev_ixV (ev_var rfl) ev_int .vt (atI_nat (j := 1) rfl)) .vl) ((ev_eqS (ev_ixV (ev_var rfl) ev_int .vt at0) ev_str).to (w' := .val (.bl k)) (by cases k <;> rfl))) ⟨rfl, rfl⟩
end
def ct_law_distinct (K : PySem.W.Frag) : Ct := Ct1 fun a ka out => ∃ xs : List Nat, a = .val (.lst (nmD xs)) ∧ xs.length ≤ 50000 ∧ ka = [] ∧ out = Rt (.lst (nmD (dedN xs))) []
section
variable {P : Program} {w : World} {K : PySem.W.Frag} {mg : Str → Option Value} {base : Heap}
theorem ok_law_distinct (T : Tx K mg) : Fn P w K mg base 4 (He.ga K "_law_distinct") ["_law_things"] (ct_law_distinct K) := by
  obtain ⟨fd, F⟩ := T.d_law_distinct
  refine fn_ok F sc_law_distinct (fun _ _ _ _ _ _ us hl => match us, hl with | [_], _ => rfl) ct1_len (fun cdv A outer s H E hr => ⟨_, (pss_one (ps_ret (pe_lc (te := (tCB rIntU (tCons (tVar 2) tNil))) (tt := (tTest (tOp (rNiU K) (tVar 2) (tSl (rSlU K) (tVar 0) tNoPart (tPart (tVar 1)))))) (g := (gTup _ 2 (gCons (gName 1) (gCons (gName 2) gNil)))) (own := [("_law_k", 1), ("_law_thing", 2)]) rfl sc_law_distinct.nd (pi_enum rfl T.n_enumerate (pa_cons (pv 0) pa_nil)) (blk_ok ["_law_things", "_law_k", "_law_thing"] (defScope s_law_distinct) rfl rfl (by decide +kernel)) (by intro _ _ _ _ _; exact (pg_tup rfl (pgs_cons (pg_name (i := 1) sc_law_distinct.nd rfl (by first | exact Or.inl rfl | exact Or.inr rfl)) (pgs_cons (pg_name (i := 2) sc_law_distinct.nd rfl (by first | exact Or.inl rfl | exact Or.inr rfl)) pgs_nil)))) (fun _ _ _ _ _ => (pts_one (pt_cmpR op_niU (pv 2) (pe_slice sl_U (pv 0) po_none (po_some (pv 1))) (by with_unfolding_all rfl)))) (fun _ _ _ _ _ => (pe_callTy call_intU rfl T.n_int (by decide +kernel) (pa_cons (pv 2) pa_nil)))))), fun ws ka out B F0 Q hC hR hX => ?_⟩)
  obtain ⟨a, rfl, xs, rfl, hl, rfl, rfl⟩ := hC
  have nl : (nmD xs).length = xs.length := List.length_map _
  have ng : ∀ i, i < xs.length → (nmD xs).getD i .non = D.int ((xs.getD i 0 : Nat) : Int) := fun i hi => by
    unfold nmD
    rw [List.getD_eq_getElem?_getD, List.getD_eq_getElem?_getD, List.getElem?_map, List.getElem?_eq_getElem hi]
    rfl
  have hws : ((List.range (nmD xs).length).map fun i : Nat => W.val (.tup [.int (i : Int), (nmD xs).getD i .non])) = ((List.range xs.length).map fun i : Nat => ((D.int (i : Int), D.int ((xs.getD i 0 : Nat) : Int)) : D × D)).map fun p => W.val (.tup [p.1, p.2]) := by
    rw [List.map_map, nl]
    exact List.map_congr_left fun i hi => by
      rw [ng i (List.mem_range.mp hi)]
      rfl
  refine g_ret hR ((evn_filtP (f := fun x => x.2) (p := fun x => match x with
    | (.int i, .int n) => !decide (n.toNat ∈ xs.take i.toNat)
    | _ => false) (EvI.ws (ei_enum (ds := nmD xs) (ev_var rfl) .vl) hws) (by decide) (by decide) (by rw [List.length_map, List.length_range]; omega) ⟨trivial, fun _ => trivial⟩ (fun x hx => ?_) (fun x hx _ => ?_)).lst.to ?_) ⟨rfl, rfl⟩
  · obtain ⟨i, hi, rfl⟩ := List.mem_map.mp hx
    have cut : cutD (nmD xs) none (some (i : Int)) = nmD (xs.take i) := by
      rw [cut_to' (by omega)]
      unfold nmD
      rw [← List.map_take]
      rfl
    exact et_test (ev_niN (ev_var rfl) ((evn_sl (ev_var rfl) eo_none (eo_some (ev_var rfl)) .vl).lst.to (by rw [cut]; rfl)) .vl)
  · obtain ⟨i, hi, rfl⟩ := List.mem_map.mp hx
    exact ev_int1 (ev_var rfl)
  · unfold dedN nmD
    rw [List.filter_map, List.map_map, List.map_map]
    rfl
end
def ct_law_ends_of (d : Nat) (K : PySem.W.Frag) : Ct := Ct3 fun a b c ka out => ∃ (t : Tr) (ws : List Str) (s : Nat), a = .val (t.d true) ∧ b = .val (.lst (stD ws)) ∧ c = .val (.int (s : Int)) ∧ t.dep < d ∧ t.dep ≤ 3 ∧ ws.length ≤ 8 ∧ s ≤ ws.length ∧ ka = [] ∧ out = Rt (.lst (nmD (endsL ws t s))) []
theorem ct_law_ends_of_zero (K : PySem.W.Frag) : ∀ ws ka out, ¬ ct_law_ends_of 0 K ws ka out := fun ws ka out ⟨_, _, _, _, _, _, _, _, _, _, hd, _⟩ => absurd hd (Nat.not_lt_zero _)
theorem nm_one (n : Nat) : [D.int ((n : Int) + 1)] = nmD [n + 1] := by
  show _ = [D.int ((n + 1 : Nat) : Int)]
  rw [Int.natCast_add]
  rfl
theorem nm_app (xs ys : List Nat) : nmD xs ++ nmD ys = nmD (xs ++ ys) := (List.map_append ..).symm
theorem nm_len (xs : List Nat) : (nmD xs).length = xs.length := List.length_map _
theorem nm_get {xs : List Nat} {i p : Nat} (h : xs[i]? = some p) : (nmD xs)[i]? = some (.int (p : Int)) := by
  show (xs.map fun n : Nat => D.int (n : Int))[i]? = _
  rw [List.getElem?_map, h]
  rfl
section
variable {P : Program} {w : World} {K : PySem.W.Frag} {mg : Str → Option Value} {base : Heap}
theorem ok_law_ends_of (T : Tx K mg) (F_law_takes : Fn P w K mg base 4 (He.ga K "_law_takes") ["_law_atom_here", "_law_lane"] (ct_law_takes K)) (F_law_distinct : Fn P w K mg base 4 (He.ga K "_law_distinct") ["_law_things"] (ct_law_distinct K)) : ∀ d : Nat, Fn P w K mg base (2 * d + 6) (He.ga K "_law_ends_of") ["_law_tree_here", "_law_lanes", "_law_start"] (ct_law_ends_of d K) := by
  obtain ⟨fd, F⟩ := T.d_law_ends_of
  intro d
  induction d with
  | zero => exact fn_vac F sc_law_ends_of (fun _ _ _ _ _ _ us hl => match us, hl with | [_, _, _], _ => rfl) (ct_law_ends_of_zero K)
  | succ d F_law_ends_of => ?_
  refine fn_ok F sc_law_ends_of (fun _ _ _ _ _ _ us hl => match us, hl with | [_, _, _], _ => rfl) ct3_len (fun cdv A outer s H E hr => ⟨_, (pss_cons (ps_if (pt_cmpR op_inU (pe_ix ix_seq (pv 0) pe_int fun _ _ => rfl) (pe_tup (pa_cons pe_str (pa_cons pe_str pa_nil))) (by with_unfolding_all rfl))
      (pss_cons (ps_if (PW.pt (pw_and (pt_cmpR op_lt (pv 2) (pe_callB call_lenU rfl T.n_len (by decide +kernel) (pa_cons (pv 1) pa_nil)) (nomark _)) (pw_and1 (pt_val (pe_call (F_law_takes.up (by omega)).ok hr rfl T.g_law_takes.1 T.g_law_takes.2 (F_law_takes.up (by omega)).bn .nil (pass_own rfl rfl rfl rfl) (pa_cons (pv 0) (pa_cons (pe_ix ix_seq (pv 1) (pv 2) fun _ _ => rfl) pa_nil)))))))
      (pss_one (ps_ret (pe_lst (pa_cons (pe_op op_addU (pv 2) pe_int) pa_nil))))
      pss_nil)
      (pss_one (ps_ret (pe_lst pa_nil))))
      pss_nil)
      (pss_cons (ps_if (pt_cmpR (op_eqP (by have := (hr).units; exact this)) (pe_ix ix_seq (pv 0) pe_int fun _ _ => rfl) pe_str (nomark _))
      (pss_one (ps_ret (pe_op op_addU (pe_call (F_law_ends_of.up (by omega)).ok hr rfl T.g_law_ends_of.1 T.g_law_ends_of.2 (F_law_ends_of.up (by omega)).bn .nil (pass_own rfl rfl rfl rfl) (pa_cons (pe_ix ix_seq (pv 0) pe_int fun _ _ => rfl) (pa_cons (pv 1) (pa_cons (pv 2) pa_nil)))) (pe_call (F_law_ends_of.up (by omega)).ok hr rfl T.g_law_ends_of.1 T.g_law_ends_of.2 (F_law_ends_of.up (by omega)).bn .nil (pass_own rfl rfl rfl rfl) (pa_cons (pe_ix ix_seq (pv 0) pe_int fun _ _ => rfl) (pa_cons (pv 1) (pa_cons (pv 2) pa_nil)))))))
      pss_nil)
      (pss_cons (ps_if (pt_cmpR (op_eqP (by have := (hr).units; exact this)) (pe_ix ix_seq (pv 0) pe_int fun _ _ => rfl) pe_str (nomark _))
      (pss_one (ps_ret (pe_op op_addU (pe_lst (pa_cons (pv 2) pa_nil)) (pe_call (F_law_ends_of.up (by omega)).ok hr rfl T.g_law_ends_of.1 T.g_law_ends_of.2 (F_law_ends_of.up (by omega)).bn .nil (pass_own rfl rfl rfl rfl) (pa_cons (pe_ix ix_seq (pv 0) pe_int fun _ _ => rfl) (pa_cons (pv 1) (pa_cons (pv 2) pa_nil)))))))
      pss_nil)
      (pss_cons (ps_if (pt_cmpR (op_eqP (by have := (hr).units; exact this)) (pe_ix ix_seq (pv 0) pe_int fun _ _ => rfl) pe_str (nomark _))
      (pss_cons (ps_set (i := 3) sc_law_ends_of.nd rfl (by first | exact Or.inl rfl | exact Or.inr rfl) (pe_lst pa_nil))
      (pss_cons (ps_for (passes_of rfl) rfl (pi_seq (pe_call (F_law_distinct.up (by omega)).ok hr rfl T.g_law_distinct.1 T.g_law_distinct.2 (F_law_distinct.up (by omega)).bn .nil (pass_own rfl rfl rfl rfl) (pa_cons (pe_call (F_law_ends_of.up (by omega)).ok hr rfl T.g_law_ends_of.1 T.g_law_ends_of.2 (F_law_ends_of.up (by omega)).bn .nil (pass_own rfl rfl rfl rfl) (pa_cons (pe_ix ix_seq (pv 0) pe_int fun _ _ => rfl) (pa_cons (pv 1) (pa_cons (pv 2) pa_nil)))) pa_nil))) (pg_name (i := 4) sc_law_ends_of.nd rfl (by first | exact Or.inl rfl | exact Or.inr rfl)) (pss_one (ps_set (i := 3) sc_law_ends_of.nd rfl (by first | exact Or.inl rfl | exact Or.inr rfl) (pe_op op_addU (pv 3) (pe_call (F_law_ends_of.up (by omega)).ok hr rfl T.g_law_ends_of.1 T.g_law_ends_of.2 (F_law_ends_of.up (by omega)).bn .nil (pass_own rfl rfl rfl rfl) (pa_cons (pe_ix ix_seq (pv 0) pe_int fun _ _ => rfl) (pa_cons (pv 1) (pa_cons (pv 4) pa_nil))))))))
      (pss_one (ps_ret (pv 3)))))
      pss_nil)
      (pss_cons (ps_set (i := 3) sc_law_ends_of.nd rfl (by first | exact Or.inl rfl | exact Or.inr rfl) (pe_lst (pa_cons (pv 2) pa_nil)))
      (pss_cons (ps_set (i := 5) sc_law_ends_of.nd rfl (by first | exact Or.inl rfl | exact Or.inr rfl) pe_int)
      (pss_cons (ps_while (passes_of rfl) (pt_cmpR op_lt (pv 5) (pe_callB call_lenU rfl T.n_len (by decide +kernel) (pa_cons (pv 3) pa_nil)) (nomark _)) (pss_cons (ps_for (passes_of rfl) rfl (pi_seq (pe_call (F_law_ends_of.up (by omega)).ok hr rfl T.g_law_ends_of.1 T.g_law_ends_of.2 (F_law_ends_of.up (by omega)).bn .nil (pass_own rfl rfl rfl rfl) (pa_cons (pe_ix ix_seq (pv 0) pe_int fun _ _ => rfl) (pa_cons (pv 1) (pa_cons (pe_ix ix_seq (pv 3) (pv 5) fun _ _ => rfl) pa_nil))))) (pg_name (i := 4) sc_law_ends_of.nd rfl (by first | exact Or.inl rfl | exact Or.inr rfl)) (pss_one (ps_if (pt_cmpR op_niU (pv 4) (pv 3) (by with_unfolding_all rfl))
      (pss_one (ps_expr (pe_bm PySem.F.plainAttrs_list PySem.F.slot_list_append PySem.F.type_list_append mt_append (pv 3) (pa_cons (pv 4) pa_nil))))
      pss_nil)))
      (pss_one (ps_set (i := 5) sc_law_ends_of.nd rfl (by first | exact Or.inl rfl | exact Or.inr rfl) (pe_op op_addU (pv 5) pe_int)))))
      (pss_one (ps_ret (pv 3)))))))))), fun ws ka out B F0 Q hC hR hX => ?_⟩)
  obtain ⟨a, b, c, rfl, t, ws, s, rfl, rfl, rfl, hd, h3, hw, hs, rfl, rfl⟩ := hC
  have bz : ∀ (u : Tr) (m : Nat), u.dep ≤ 3 → m ≤ ws.length → (endsL ws u m).length ≤ 6561 := fun u m h1 h2 => Nat.le_trans (endsL_len hw u m h1 h2) bndE_top
  cases t with
  | «at» kd ns =>
    refine q_when (b := true) ((et_test (ev_inL (ss := ["any", "none"]) (ev_ixV (ev_var rfl) ev_int .vt at0) (ev_tup (ds := stD ["any", "none"]) (ea2 ev_str ev_str) (Nat.le_of_ble_eq_true rfl)) .vt)).to (by cases kd <;> decide)) (fun _ => ?_) (fun z => by cases z)
    have key : ∀ b : Bool, b = (decide ((s : Int) < ((stD ws).length : Int)) && atB (kd, ns) (ws.getD s "")) → endsL ws (.at kd ns) s = if b = true then [s + 1] else [] := fun b e => by
      subst e
      rw [stD_len]
      unfold endsL
      by_cases lt : s < ws.length
      · rw [List.getD_eq_getElem?_getD, List.getElem?_eq_getElem lt]
        have : decide ((s : Int) < (ws.length : Int)) = true := by simpa using lt
        rw [this, Bool.true_and]
        rfl
      · rw [List.getElem?_eq_none (by omega)]
        have : decide ((s : Int) < (ws.length : Int)) = false := by simpa using lt
        rw [this]
        rfl
    refine q_when (et_and (et_test (ev_lt (ev_var rfl) (ev_len (ev_var rfl) .vl))) fun hlt => et_B (b := atB (kd, ns) (ws.getD s "")) ?_) (fun hb => ?_) (fun hb => ?_)
    · rw [decide_eq_true_eq, stD_len] at hlt
      have lt : s < ws.length := by omega
      have hx : ws[s]? = some (ws.getD s "") := by rw [List.getD_eq_getElem?_getD, List.getElem?_eq_getElem lt]; rfl
      exact ev_callP (ea2 (ev_var rfl) (ev_ixV (ev_var rfl) (ev_var rfl) .vl (atI_nat (stD_get hx)))) ⟨_, _, rfl, kd, ns, _, rfl, rfl, rfl, rfl⟩
    · have e := key _ rfl
      rw [if_pos hb] at e
      exact g_ret hR ((evn_lst (ds := [.int ((s : Int) + 1)]) (ea1 (ev_addI (ev_var rfl) ev_int)) (Nat.le_of_ble_eq_true rfl)).lst.to (by rw [nm_one, ← e])) ⟨rfl, rfl⟩
    · have e := key _ rfl
      rw [if_neg (by rw [hb]; exact Bool.false_ne_true)] at e
      exact g_ret hR ((evn_lst (ds := []) ea_nil (Nat.le_of_ble_eq_true rfl)).lst.to (by rw [e]; rfl)) ⟨rfl, rfl⟩
  | either x y =>
    have hx : max x.dep y.dep + 1 < d + 1 := hd
    have hy : max x.dep y.dep + 1 ≤ 3 := h3
    have z1 := bz x s (by omega) hs
    have z2 := bz y s (by omega) hs
    refine q_when (b := false) ((et_test (ev_inL (ss := ["any", "none"]) (ev_ixV (ev_var rfl) ev_int .vt at0) (ev_tup (ds := stD ["any", "none"]) (ea2 ev_str ev_str) (Nat.le_of_ble_eq_true rfl)) .vt)).to (by decide)) (fun z => by cases z) (fun _ => ?_)
    refine q_when (b := true) ((et_test (ev_eqS (ev_ixV (ev_var rfl) ev_int .vt at0) ev_str)).to (by decide)) (fun _ => ?_) (fun z => by cases z)
    exact g_ret hR ((ev_catL (ev_callP (ea3 (ev_ixV (ev_var rfl) ev_int .vt (atI_nat (j := 1) rfl)) (ev_var rfl) (ev_var rfl)) ⟨_, _, _, rfl, x, ws, s, rfl, rfl, rfl, by omega, by omega, hw, hs, rfl, rfl⟩)
      (ev_callP (ea3 (ev_ixV (ev_var rfl) ev_int .vt (atI_nat (j := 2) rfl)) (ev_var rfl) (ev_var rfl)) ⟨_, _, _, rfl, y, ws, s, rfl, rfl, rfl, by omega, by omega, hw, hs, rfl, rfl⟩) (by rw [nm_len, nm_len]; omega)).to (by rw [nm_app]; rfl)) ⟨rfl, rfl⟩
  | opt x =>
    have hx : x.dep + 1 < d + 1 := hd
    have hy : x.dep + 1 ≤ 3 := h3
    have z1 := bz x s (by omega) hs
    refine q_when (b := false) ((et_test (ev_inL (ss := ["any", "none"]) (ev_ixV (ev_var rfl) ev_int .vt at0) (ev_tup (ds := stD ["any", "none"]) (ea2 ev_str ev_str) (Nat.le_of_ble_eq_true rfl)) .vt)).to (by decide)) (fun z => by cases z) (fun _ => ?_)
    refine q_when (b := false) ((et_test (ev_eqS (ev_ixV (ev_var rfl) ev_int .vt at0) ev_str)).to (by decide)) (fun z => by cases z) (fun _ => ?_)
    refine q_when (b := true) ((et_test (ev_eqS (ev_ixV (ev_var rfl) ev_int .vt at0) ev_str)).to (by decide)) (fun _ => ?_) (fun z => by cases z)
    exact g_ret hR (ev_catL (ds := nmD [s]) (evn_lst (ds := [.int (s : Int)]) (ea1 (ev_var rfl)) (Nat.le_of_ble_eq_true rfl)).lst
      (ev_callP (ea3 (ev_ixV (ev_var rfl) ev_int .vt (atI_nat (j := 1) rfl)) (ev_var rfl) (ev_var rfl)) ⟨_, _, _, rfl, x, ws, s, rfl, rfl, rfl, by omega, by omega, hw, hs, rfl, rfl⟩) (by rw [nm_len, nm_len, List.length_singleton]; omega)) ⟨rfl, rfl⟩
  | join x y =>
    have hx : max x.dep y.dep + 1 < d + 1 := hd
    have hy : max x.dep y.dep + 1 ≤ 3 := h3
    have z1 := bz x s (by omega) hs
    refine q_when (b := false) ((et_test (ev_inL (ss := ["any", "none"]) (ev_ixV (ev_var rfl) ev_int .vt at0) (ev_tup (ds := stD ["any", "none"]) (ea2 ev_str ev_str) (Nat.le_of_ble_eq_true rfl)) .vt)).to (by decide)) (fun z => by cases z) (fun _ => ?_)
    refine q_when (b := false) ((et_test (ev_eqS (ev_ixV (ev_var rfl) ev_int .vt at0) ev_str)).to (by decide)) (fun z => by cases z) (fun _ => ?_)
    refine q_when (b := false) ((et_test (ev_eqS (ev_ixV (ev_var rfl) ev_int .vt at0) ev_str)).to (by decide)) (fun z => by cases z) (fun _ => ?_)
    refine q_when (b := true) ((et_test (ev_eqS (ev_ixV (ev_var rfl) ev_int .vt at0) ev_str)).to (by decide)) (fun _ => ?_) (fun z => by cases z)
    refine q_asg (evn_lst (ds := []) ea_nil (Nat.le_of_ble_eq_true rfl)).lst ?_
    have whole : ((dedN (endsL ws x s)).flatMap (endsL ws y)).length ≤ 6561 := bz (.join x y) s h3 hs
    have part : ∀ i, (((dedN (endsL ws x s)).take i).flatMap (endsL ws y)).length ≤ 6561 := fun i => Nat.le_trans (by
      have e := congrArg List.length (congrArg (List.flatMap (endsL ws y)) (List.take_append_drop i (dedN (endsL ws x s))))
      rw [List.flatMap_append, List.length_append] at e
      omega) whole
    refine q_forn (C := fun _ => True) (EvI.ws (ws' := (dedN (endsL ws x s)).map fun n : Nat => W.val (.int (n : Int))) (ei_seq (ds := nmD (dedN (endsL ws x s))) (ev_callP (ea1 (ev_callP (ea3 (ev_ixV (ev_var rfl) ev_int .vt (atI_nat (j := 1) rfl)) (ev_var rfl) (ev_var rfl)) ⟨_, _, _, rfl, x, ws, s, rfl, rfl, rfl, by omega, by omega, hw, hs, rfl, rfl⟩)) ⟨_, rfl, endsL ws x s, rfl, by omega, rfl, rfl⟩) .vl) (by unfold nmD; rw [List.map_map]; rfl))
      (fun i ro ka => ∃ v v2, ro = [some (.val ((Tr.join x y).d true)), some (.val (.lst (stD ws))), some (.val (.int (s : Int))), some (.val (.lst (nmD (((dedN (endsL ws x s)).take i).flatMap (endsL ws y))))), v, v2] ∧ ka = []) ⟨none, none, rfl, rfl⟩ (fun _ _ _ _ => trivial) (fun i w ro2 ka2 ta' hw2 ⟨v, v2, e1, e2⟩ => ?_) (fun ro2 ka2 ta' ⟨v, v2, e1, e2⟩ _ => ?_)
    · subst e1 e2
      rw [List.getElem?_map] at hw2
      obtain ⟨m, hm, rfl⟩ := Option.map_eq_some_iff.mp hw2
      have hml : m ≤ ws.length := endsL_le hs m (dedN_mem.mp (List.mem_of_getElem? hm))
      have grow : ((dedN (endsL ws x s)).take (i + 1)).flatMap (endsL ws y) = ((dedN (endsL ws x s)).take i).flatMap (endsL ws y) ++ endsL ws y m := by
        rw [take_succ_some hm, List.flatMap_append]
        show _ ++ (_ ++ []) = _
        rw [List.append_nil]
      have pz := part i
      have z2 := bz y m (by omega) hml
      refine g_asg ((ev_catL (ev_var rfl) (ev_callP (ea3 (ev_ixV (ev_var rfl) ev_int .vt (atI_nat (j := 2) rfl)) (ev_var rfl) (ev_var rfl)) ⟨_, _, _, rfl, y, ws, m, rfl, rfl, rfl, by omega, by omega, hw, hml, rfl, rfl⟩) (by rw [nm_len, nm_len]; omega)).to (by rw [nm_app, ← grow])) (g_jp ⟨_, v2, rfl, rfl⟩)
    · subst e1 e2
      rw [List.length_map, List.take_length]
      exact g_ret hR (ev_var rfl) ⟨rfl, rfl⟩
  | rep x =>
    have hx : x.dep + 1 < d + 1 := hd
    have hy : x.dep + 1 ≤ 3 := h3
    have bd : ∀ m ≤ ws.length, ∀ k ∈ endsL ws x m, k ≤ ws.length := fun m hm => endsL_le hm
    refine q_when (b := false) ((et_test (ev_inL (ss := ["any", "none"]) (ev_ixV (ev_var rfl) ev_int .vt at0) (ev_tup (ds := stD ["any", "none"]) (ea2 ev_str ev_str) (Nat.le_of_ble_eq_true rfl)) .vt)).to (by decide)) (fun z => by cases z) (fun _ => ?_)
    refine q_when (b := false) ((et_test (ev_eqS (ev_ixV (ev_var rfl) ev_int .vt at0) ev_str)).to (by decide)) (fun z => by cases z) (fun _ => ?_)
    refine q_when (b := false) ((et_test (ev_eqS (ev_ixV (ev_var rfl) ev_int .vt at0) ev_str)).to (by decide)) (fun z => by cases z) (fun _ => ?_)
    refine q_when (b := false) ((et_test (ev_eqS (ev_ixV (ev_var rfl) ev_int .vt at0) ev_str)).to (by decide)) (fun z => by cases z) (fun _ => ?_)
    refine q_asgN (evn_lst (ds := [.int (s : Int)]) (ea1 (ev_var rfl)) (Nat.le_of_ble_eq_true rfl)) (fun a => ?_)
    refine q_asg ev_int ?_
    refine q_while (fun n ro ka => ∃ (found : List Nat) (i : Nat) (v : Option W), ro = [some (.val ((Tr.rep x).d true)), some (.val (.lst (stD ws))), some (.val (.int (s : Int))), some (.val (.adr a)), v, some (.val (.int (i : Int)))] ∧ ka = [(a, .lst (nmD found))] ∧ RepI (endsL ws x) ws.length s n found i ∧ repGo (endsL ws x) n found i = endsL ws (.rep x) s)
      (ws.length + 2) ⟨[s], 0, none, rfl, rfl, .begin hs, rfl⟩ (fun n ro2 ka2 ⟨found, i, v, e1, e2, inv, fin⟩ => ?_)
    subst e1 e2
    have fl := nodup_le inv.nd inv.le
    have ia := inv.at_
    have ifu := inv.fuel
    refine ⟨_, _, et_test (ev_lt (ev_var rfl) (ev_len (ev_var rfl) (.ce 0 rfl))), fun hb => ?_, fun hb => ?_⟩
    · rw [decide_eq_true_eq, nm_len] at hb
      have lt : i < found.length := by omega
      obtain ⟨p, hp⟩ : ∃ p, found[i]? = some p := ⟨_, List.getElem?_eq_getElem lt⟩
      have hpl := inv.le p (List.mem_of_getElem? hp)
      obtain ⟨n, rfl⟩ : ∃ n', n = n' + 1 := ⟨n - 1, by omega⟩
      have nx := inv.next bd hp
      have go : repGo (endsL ws x) (n + 1) found i = repGo (endsL ws x) n (addN found (endsL ws x p)) (i + 1) := by
        show (match found[i]? with | none => found | some p => repGo (endsL ws x) n (addN found (endsL ws x p)) (i + 1)) = _
        rw [hp]
      refine q_forn (C := fun _ => True) (EvI.ws (ws' := (endsL ws x p).map fun n : Nat => W.val (.int (n : Int))) (ei_seq (ds := nmD (endsL ws x p)) (ev_callP (ea3 (ev_ixV (ev_var rfl) ev_int .vt (atI_nat (j := 1) rfl)) (ev_var rfl) (ev_ixV (ev_var rfl) (ev_var rfl) (.ce 0 rfl) (atI_nat (nm_get hp)))) ⟨_, _, _, rfl, x, ws, p, rfl, rfl, rfl, by omega, by omega, hw, hpl, rfl, rfl⟩) .vl) (by unfold nmD; rw [List.map_map]; rfl))
        (fun j ro ka => ∃ v, ro = [some (.val ((Tr.rep x).d true)), some (.val (.lst (stD ws))), some (.val (.int (s : Int))), some (.val (.adr a)), v, some (.val (.int (i : Int)))] ∧ ka = [(a, .lst (nmD (addN found ((endsL ws x p).take j))))]) ⟨v, rfl, rfl⟩ (fun _ _ _ _ => trivial) (fun j w ro2 ka2 ta' hw2 ⟨v, e1, e2⟩ => ?_) (fun ro2 ka2 ta' ⟨v, e1, e2⟩ hsub => ?_)
      · subst e1 e2
        rw [List.getElem?_map] at hw2
        obtain ⟨k, hk, rfl⟩ := Option.map_eq_some_iff.mp hw2
        have step : addN found ((endsL ws x p).take (j + 1)) = if k ∈ addN found ((endsL ws x p).take j) then addN found ((endsL ws x p).take j) else addN found ((endsL ws x p).take j) ++ [k] := by
          rw [take_succ_some hk]
          exact List.foldl_append ..
        have fj : (addN found ((endsL ws x p).take j)).length ≤ ws.length + 1 := nodup_le (addN_nodup _ _ inv.nd) fun y hy => by
          rcases (addN_mem _ _).mp hy with z | z
          · exact inv.le y z
          · exact bd p hpl y (List.mem_of_mem_take z)
        refine g_if (et_test (ev_niN (ev_var rfl) (ev_var rfl) (.ce 0 rfl))) (fun hb => ?_) (fun hb => g_next (g_jp ⟨_, rfl, ?_⟩))
        · rw [Bool.not_eq_true', decide_eq_false_iff_not] at hb
          refine g_app (j0 := 0) (j := 0) (d := .int (k : Int)) (ev_var rfl) rfl (ev_var rfl) rfl (by rw [nm_len]; omega) (g_jp ⟨_, rfl, ?_⟩)
          rw [step, if_neg hb, ← nm_app]
          rfl
        · rw [Bool.not_eq_false', decide_eq_true_eq] at hb
          rw [step, if_pos hb]
      · subst e1 e2
        rw [List.length_map, List.take_length]
        refine g_asg (ev_addI (ev_var rfl) ev_int) (g_jpH hsub ⟨n, Nat.lt_succ_self _, addN found (endsL ws x p), i + 1, v, ?_, rfl, nx, go ▸ fin⟩)
        rfl
    · rw [decide_eq_false_iff_not, nm_len] at hb
      have hn : found[i]? = none := List.getElem?_eq_none (by omega)
      have done : found = endsL ws (.rep x) s := by
        rw [← fin]
        cases n with
        | zero => rfl
        | succ n =>
          show found = (match found[i]? with | none => found | some p => repGo (endsL ws x) n (addN found (endsL ws x p)) (i + 1))
          rw [hn]
      exact Gp.frz (i := 3) (j := 0) rfl rfl (g_ret hR ((ev_var rfl).to (by rw [done])) ⟨rfl, rfl⟩)
end
def ct_law_is_word (K : PySem.W.Frag) : Ct := Ct2 fun a b ka out => ∃ (t : Tr) (ws : List Str), a = .val (t.d true) ∧ b = .val (.lst (stD ws)) ∧ t.dep ≤ 3 ∧ ws.length ≤ 8 ∧ ka = [] ∧ out = Rt (.bl (decide (ws.length ∈ endsL ws t 0))) []
section
variable {P : Program} {w : World} {K : PySem.W.Frag} {mg : Str → Option Value} {base : Heap}
theorem ok_law_is_word (T : Tx K mg) (F_law_ends_of : Fn P w K mg base 22 (He.ga K "_law_ends_of") ["_law_tree_here", "_law_lanes", "_law_start"] (ct_law_ends_of 8 K)) : Fn P w K mg base 24 (He.ga K "_law_is_word") ["_law_tree_here", "_law_lanes"] (ct_law_is_word K) := by
  obtain ⟨fd, F⟩ := T.d_law_is_word
  refine fn_ok F sc_law_is_word (fun _ _ _ _ _ _ us hl => match us, hl with | [_, _], _ => rfl) ct2_len (fun cdv A outer s H E hr => ⟨_, (pss_one (ps_ret (pe_cmpR op_inU (pe_callB call_lenU rfl T.n_len (by decide +kernel) (pa_cons (pv 1) pa_nil)) (pe_call (F_law_ends_of.up (by decide)).ok hr rfl T.g_law_ends_of.1 T.g_law_ends_of.2 (F_law_ends_of.up (by decide)).bn .nil (pass_own rfl rfl rfl rfl) (pa_cons (pv 0) (pa_cons (pv 1) (pa_cons pe_int pa_nil)))) (by with_unfolding_all rfl)))), fun ws ka out B F0 Q hC hR hX => ?_⟩)
  obtain ⟨a, b, rfl, t, ws, rfl, rfl, hd, hw, rfl, rfl⟩ := hC
  refine g_ret hR (ev_inN (n := ws.length) (ns := endsL ws t 0) ((ev_len (ev_var rfl) .vl).to (by rw [stD_len])) (ev_callP (ea3 (ev_var rfl) (ev_var rfl) ev_int) ⟨_, _, _, rfl, t, ws, 0, rfl, rfl, rfl, by omega, hd, hw, Nat.zero_le _, rfl, rfl⟩) .vl) ⟨rfl, rfl⟩
end
/-- all rows of so many names -/
def rowsW (ns : List Str) : Nat → List (List Str)
  | 0 => [[]]
  | n + 1 => (rowsW ns n).flatMap fun r => ns.map fun x => r ++ [x]
def allW (ns : List Str) (n : Nat) : List (List Str) := (List.range (n + 1)).flatMap (rowsW ns)
def rowD (rs : List (List Str)) : List D := rs.map fun r => .lst (stD r)
theorem rowD_app (a b : List (List Str)) : rowD a ++ rowD b = rowD (a ++ b) := (List.map_append ..).symm
theorem rowD_len (a : List (List Str)) : (rowD a).length = a.length := List.length_map _
theorem rowsW_len (ns : List Str) : ∀ n, (rowsW ns n).length = ns.length ^ n
  | 0 => rfl
  | n + 1 => by
    have all : ∀ l : List (List Str), (l.flatMap fun r => ns.map fun x => r ++ [x]).length = l.length * ns.length := by
      intro l
      induction l with
      | nil => simp
      | cons r l ih =>
        rw [List.flatMap_cons, List.length_append, ih, List.length_map, List.length_cons, Nat.succ_mul]
        omega
    show ((rowsW ns n).flatMap fun r => ns.map fun x => r ++ [x]).length = _
    rw [all, rowsW_len ns n, Nat.pow_succ]
theorem rowsW_in (ns : List Str) : ∀ n, ∀ r ∈ rowsW ns n, r.length = n ∧ ∀ x ∈ r, x ∈ ns
  | 0, r, h => by
    rw [List.mem_singleton.mp h]
    exact ⟨rfl, fun x hx => by cases hx⟩
  | n + 1, r, h => by
    obtain ⟨q, hq, hr⟩ := List.mem_flatMap.mp h
    obtain ⟨x, hx, rfl⟩ := List.mem_map.mp hr
    obtain ⟨h1, h2⟩ := rowsW_in ns n q hq
    refine ⟨by rw [List.length_append, h1]; rfl, fun y hy => ?_⟩
    rcases List.mem_append.mp hy with hy | hy
    · exact h2 y hy
    · rw [List.mem_singleton.mp hy]; exact hx
theorem allW_in {ns : List Str} {n : Nat} : ∀ r ∈ allW ns n, r.length ≤ n ∧ ∀ x ∈ r, x ∈ ns := fun r h => by
  obtain ⟨i, hi, hr⟩ := List.mem_flatMap.mp h
  have := List.mem_range.mp hi
  obtain ⟨h1, h2⟩ := rowsW_in ns i r hr
  exact ⟨by omega, h2⟩
theorem allW_succ (ns : List Str) (n : Nat) : allW ns (n + 1) = allW ns n ++ rowsW ns (n + 1) := by
  unfold allW
  rw [List.range_succ (n := n + 1), List.flatMap_append]
  show _ ++ (_ ++ []) = _
  rw [List.append_nil]
theorem allW_len {ns : List Str} (h : ns.length ≤ 4) : ∀ n ≤ 4, (allW ns n).length ≤ 341 ∧ (rowsW ns n).length ≤ 256 := by
  intro n hn
  have r : ∀ k, (rowsW ns k).length ≤ 4 ^ k := fun k => by rw [rowsW_len]; exact Nat.pow_le_pow_left h k
  have s : ∀ k, (allW ns (k + 1)).length ≤ (allW ns k).length + 4 ^ (k + 1) := fun k => by
    have := r (k + 1)
    rw [allW_succ, List.length_append]
    omega
  have z : (allW ns 0).length = 1 := rfl
  have s0 : (allW ns 1).length ≤ (allW ns 0).length + 4 ^ 1 := s 0
  have s1 : (allW ns 2).length ≤ (allW ns 1).length + 4 ^ 2 := s 1
  have s2 : (allW ns 3).length ≤ (allW ns 2).length + 4 ^ 3 := s 2
  have s3 : (allW ns 4).length ≤ (allW ns 3).length + 4 ^ 4 := s 3
  have rn := r n
  rcases (by omega : n = 0 ∨ n = 1 ∨ n = 2 ∨ n = 3 ∨ n = 4) with rfl | rfl | rfl | rfl | rfl <;> exact ⟨by omega, Nat.le_trans rn (by decide)⟩
def ct_law_all_words (K : PySem.W.Frag) : Ct := Ct2 fun a b ka out => ∃ ns : List Str, a = .val (.lst (stD ns)) ∧ b = .val (.int 4) ∧ ns.length ≤ 4 ∧ ka = [] ∧ out = Rt (.lst (rowD (allW ns 4))) []
section
variable {P : Program} {w : World} {K : PySem.W.Frag} {mg : Str → Option Value} {base : Heap}
theorem ok_law_all_words (T : Tx K mg) : Fn P w K mg base 4 (He.ga K "_law_all_words") ["_law_names_here", "_law_most"] (ct_law_all_words K) := by
  obtain ⟨fd, F⟩ := T.d_law_all_words
  refine fn_ok F sc_law_all_words (fun _ _ _ _ _ _ us hl => match us, hl with | [_, _], _ => rfl) ct2_len (fun cdv A outer s H E hr => ⟨_, (pss_cons (ps_set (i := 2) sc_law_all_words.nd rfl (by first | exact Or.inl rfl | exact Or.inr rfl) (pe_lst (pa_cons (pe_lst pa_nil) pa_nil)))
      (pss_cons (ps_set (i := 3) sc_law_all_words.nd rfl (by first | exact Or.inl rfl | exact Or.inr rfl) (pe_lst (pa_cons (pe_lst pa_nil) pa_nil)))
      (pss_cons (ps_for (passes_of rfl) rfl (pi_range1 rfl T.n_range (pa_cons (pv 1) pa_nil)) (pg_name (i := 4) sc_law_all_words.nd rfl (by first | exact Or.inl rfl | exact Or.inr rfl)) (pss_cons (ps_set (i := 5) sc_law_all_words.nd rfl (by first | exact Or.inl rfl | exact Or.inr rfl) (pe_lst pa_nil))
      (pss_cons (ps_for (passes_of rfl) rfl (pi_seq (pv 2)) (pg_name (i := 6) sc_law_all_words.nd rfl (by first | exact Or.inl rfl | exact Or.inr rfl)) (pss_one (ps_set (i := 5) sc_law_all_words.nd rfl (by first | exact Or.inl rfl | exact Or.inr rfl) (pe_op op_addU (pv 5) (pe_lc (te := (tOp (rAddU K) (tVar 6) (tLst (tCons (tVar 7) tNil)))) (tt := tYes) (own := [("_law_name", 7)]) rfl sc_law_all_words.nd (pi_seq (pv 0)) (blk_ok ["_law_names_here", "_law_most", "_law_rows", "_law_found", "_law_length", "_law_longer", "_law_row", "_law_name"] (defScope s_law_all_words) rfl rfl (by decide +kernel)) (fun _ _ _ _ _ => (pg_name (i := 7) sc_law_all_words.nd rfl (by first | exact Or.inl rfl | exact Or.inr rfl))) (fun _ _ _ _ _ => pts_nil) (fun _ _ _ _ _ => (pe_op op_addU (pv 6) (pe_lst (pa_cons (pv 7) pa_nil)))))))))
      (pss_cons (ps_set (i := 2) sc_law_all_words.nd rfl (by first | exact Or.inl rfl | exact Or.inr rfl) (pv 5))
      (pss_one (ps_set (i := 3) sc_law_all_words.nd rfl (by first | exact Or.inl rfl | exact Or.inr rfl) (pe_op op_addU (pv 3) (pv 2))))))))
      (pss_one (ps_ret (pv 3)))))), fun ws ka out B F0 Q hC hR hX => ?_⟩)
  obtain ⟨a, b, rfl, ns, rfl, rfl, hl, rfl, rfl⟩ := hC
  refine q_asg (w := .val (.lst (rowD (rowsW ns 0)))) (evn_lst (ds := [.lst []]) (ea1 (evn_lst (ds := []) ea_nil (Nat.le_of_ble_eq_true rfl)).lst) (Nat.le_of_ble_eq_true rfl)).lst ?_
  refine q_asg (w := .val (.lst (rowD (allW ns 0)))) (evn_lst (ds := [.lst []]) (ea1 (evn_lst (ds := []) ea_nil (Nat.le_of_ble_eq_true rfl)).lst) (Nat.le_of_ble_eq_true rfl)).lst ?_
  refine q_forn (ei_range1 (ea1 (ev_var rfl)) (by decide) (by decide)) (fun i ro ka => ∃ v1 v2 v3 v4, ro = [some (.val (.lst (stD ns))), some (.val (.int 4)), some (.val (.lst (rowD (rowsW ns i)))), some (.val (.lst (rowD (allW ns i)))), v1, v2, v3, v4] ∧ ka = []) ⟨none, none, none, none, rfl, rfl⟩ (fun _ _ _ _ => trivial) (fun i w ro2 ka2 ta' hw ⟨v1, v2, v3, v4, e1, e2⟩ => ?_) (fun ro2 ka2 ta' ⟨v1, v2, v3, v4, e1, e2⟩ _ => ?_)
  · subst e1 e2
    have hi : i < 4 := by
      have := (List.getElem?_eq_some_iff.mp hw).1
      rw [List.length_map, List.length_range] at this
      exact this
    have hz := (allW_len hl (i + 1) (by omega))
    have hz2 := hz.1
    rw [allW_succ, List.length_append] at hz2
    refine q_asg (w := .val (.lst (rowD (((rowsW ns i).take 0).flatMap fun r => ns.map fun x => r ++ [x])))) (evn_lst (ds := []) ea_nil (Nat.le_of_ble_eq_true rfl)).lst ?_
    refine q_forn (C := fun _ => True) (EvI.ws (ws' := (rowsW ns i).map fun r : List Str => W.val (.lst (stD r))) (ei_seq (ds := rowD (rowsW ns i)) (ev_var rfl) .vl) (by unfold rowD; rw [List.map_map]; rfl))
      (fun j ro ka => ∃ v1 v3 v4, ro = [some (.val (.lst (stD ns))), some (.val (.int 4)), some (.val (.lst (rowD (rowsW ns i)))), some (.val (.lst (rowD (allW ns i)))), v1, some (.val (.lst (rowD (((rowsW ns i).take j).flatMap fun r => ns.map fun x => r ++ [x])))), v3, v4] ∧ ka = []) ⟨_, _, _, rfl, rfl⟩ (fun _ _ _ _ => trivial) (fun j w ro2 ka2 ta2 hw2 ⟨v1, v3, v4, e1, e2⟩ => ?_) (fun ro2 ka2 ta2 ⟨v1, v3, v4, e1, e2⟩ hsub => ?_)
    · subst e1 e2
      rw [List.getElem?_map] at hw2
      obtain ⟨r, hr, rfl⟩ := Option.map_eq_some_iff.mp hw2
      have rl := (rowsW_in ns i r (List.mem_of_getElem? hr)).1
      have grow : ((rowsW ns i).take (j + 1)).flatMap (fun r => ns.map fun x => r ++ [x]) = ((rowsW ns i).take j).flatMap (fun r => ns.map fun x => r ++ [x]) ++ ns.map fun x => r ++ [x] := by
        rw [take_succ_some hr, List.flatMap_append]
        show _ ++ (_ ++ []) = _
        rw [List.append_nil]
      have part : (((rowsW ns i).take (j + 1)).flatMap (fun r => ns.map fun x => r ++ [x])).length ≤ 256 := by
        refine Nat.le_trans ?_ hz.2
        show _ ≤ ((rowsW ns i).flatMap fun r => ns.map fun x => r ++ [x]).length
        have e := congrArg List.length (congrArg (List.flatMap fun r => ns.map fun x => r ++ [x]) (List.take_append_drop (j + 1) (rowsW ns i)))
        rw [List.flatMap_append, List.length_append] at e
        omega
      rw [grow, List.length_append, List.length_map] at part
      refine g_asg ((ev_catL (ds := rowD (((rowsW ns i).take j).flatMap fun r => ns.map fun x => r ++ [x])) (es := rowD (ns.map fun x => r ++ [x])) (ev_var rfl) ((evn_map (xs := ns) (g := fun s => W.val (.str s)) (f := fun x => D.lst (stD r ++ stD [x])) (ei_strs (ev_var rfl)) (by decide) (by omega) ⟨trivial, fun _ => trivial⟩ (fun x hx => ev_catL (ev_var rfl) (evn_lst (ds := [.str x]) (ea1 (ev_var rfl)) (Nat.le_of_ble_eq_true rfl)).lst (by rw [stD_len]; exact Nat.le_trans (Nat.add_le_add_right (m := 4) (by omega) _) (Nat.le_of_ble_eq_true rfl)))).lst.to (congrArg (fun z => W.val (.lst z)) (by unfold rowD; rw [List.map_map]; exact List.map_congr_left fun x _ => by rw [stD_app]; rfl))) (by rw [rowD_len, rowD_len, List.length_map]; omega)).to (by rw [rowD_app, ← grow])) (g_jp ⟨_, _, _, rfl, rfl⟩)
    · subst e1 e2
      rw [List.length_map, List.take_length]
      refine q_asg (w := .val (.lst (rowD (rowsW ns (i + 1))))) (ev_var rfl) ?_
      exact g_asg ((ev_catL (ev_var rfl) (ev_var rfl) (by rw [rowD_len, rowD_len]; omega)).to (by rw [rowD_app, ← allW_succ])) (g_jpH hsub ⟨_, _, _, _, rfl, rfl⟩)
  · subst e1 e2
    exact g_ret hR (ev_var rfl) ⟨rfl, rfl⟩
end
def ct_law_many_times (K : PySem.W.Frag) : Ct := Ct2 fun a b ka out => ∃ (t : Tr) (n : Nat), a = .val (t.d true) ∧ b = .val (.int ((n : Int) + 1)) ∧ n ≤ 1000 ∧ ka = [] ∧ out = Rt ((powT t n).d true) []
section
variable {P : Program} {w : World} {K : PySem.W.Frag} {mg : Str → Option Value} {base : Heap}
theorem ok_law_many_times (T : Tx K mg) : Fn P w K mg base 4 (He.ga K "_law_many_times") ["_law_tree_here", "_law_number"] (ct_law_many_times K) := by
  obtain ⟨fd, F⟩ := T.d_law_many_times
  refine fn_ok F sc_law_many_times (fun _ _ _ _ _ _ us hl => match us, hl with | [_, _], _ => rfl) ct2_len (fun cdv A outer s H E hr => ⟨_, (pss_cons (ps_set (i := 2) sc_law_many_times.nd rfl (by first | exact Or.inl rfl | exact Or.inr rfl) (pv 0))
      (pss_cons (ps_for (passes_of rfl) rfl (pi_range1 rfl T.n_range (pa_cons (pe_op op_sub (pv 1) pe_int) pa_nil)) (pg_name (i := 3) sc_law_many_times.nd rfl (by first | exact Or.inl rfl | exact Or.inr rfl)) (pss_one (ps_set (i := 2) sc_law_many_times.nd rfl (by first | exact Or.inl rfl | exact Or.inr rfl) (pe_tup (pa_cons pe_str (pa_cons (pv 2) (pa_cons (pv 0) pa_nil)))))))
      (pss_one (ps_ret (pv 2))))), fun ws ka out B F0 Q hC hR hX => ?_⟩)
  obtain ⟨a, b, rfl, t, n, rfl, rfl, hn, rfl, rfl⟩ := hC
  refine q_asg (ev_var rfl) ?_
  refine q_forn (ei_range1 (ea1 (ev_subI (ev_var rfl) ev_int)) (by omega) (by omega)) (fun j ro ka => ∃ v, ro = [some (.val (t.d true)), some (.val (.int ((n : Int) + 1))), some (.val ((powT t j).d true)), v] ∧ ka = []) ⟨none, rfl, rfl⟩ (fun _ _ _ _ => trivial) (fun j w ro2 ka2 ta' hw ⟨v, e1, e2⟩ => ?_) (fun ro2 ka2 ta' ⟨v, e1, e2⟩ _ => ?_)
  · subst e1 e2
    exact g_asg (w := .val ((powT t (j + 1)).d true)) (ev_tup (ds := [.str "join", (powT t j).d true, t.d true]) (ea3 ev_str (ev_var rfl) (ev_var rfl)) (Nat.le_of_ble_eq_true rfl)) (g_jp ⟨_, rfl, rfl⟩)
  · subst e1 e2
    rw [List.length_map, List.length_range]
    refine g_ret hR (ev_var rfl) ⟨by rw [show ((n : Int) + 1 - 1).toNat = n by omega], rfl⟩
end
/-- a call of a built-in one whose argument raises -/
theorem evx_cb1 {K : PySem.W.Frag} {ro : Ro} {ka k2 : Cells} {te : TE} {r : List V → Hp → VK → Prop} {E : XK} {C1 : Addr} {gs : List (Str × D)} (h : EvX K te ro ka E C1 gs k2) : EvX K (tCB r (tCons te tNil)) ro ka E C1 gs k2 := fun B F0 ta sg H Q e q => h B F0 ta sg H _ e q
def ct_law_refused (K : PySem.W.Frag) : Ct := Ct2 fun a b ka out => ∃ (t : Tr) (d : D), a = .val (PaD K (t.d false)) ∧ b = .val d ∧ tyD d ≠ none ∧ isPos d = false ∧ (∀ i, d = .int i → i ≤ 1000) ∧ ka = [] ∧ out = Rt (.lst [.str "number", d]) []
section
variable {P : Program} {w : World} {K : PySem.W.Frag} {mg : Str → Option Value} {base : Heap}
theorem ok_law_refused (T : Tx K mg) (F_Pattern___bool : Fn P w K mg base 26 (He.ma K (He.ga K "Pattern") "__bool__") ["self"] (ct_Pattern___bool K)) (F_Pattern___mul : Fn P w K mg base 8 (He.ma K (He.ga K "Pattern") "__mul__") ["self", "number"] (ct_Pattern___mul K)) : Fn P w K mg base 29 (He.ga K "_law_refused") ["_law_pattern_here", "_law_number"] (ct_law_refused K) := by
  obtain ⟨fd, F⟩ := T.d_law_refused
  refine fn_ok F sc_law_refused (fun _ _ _ _ _ _ us hl => match us, hl with | [_, _], _ => rfl) ct2_len (fun cdv A outer s H E hr => ⟨_, (pss_one (ps_try_as (tb := fun W => (tRet (tLst (tCons (tCB (rBoolO (He.ga K "Pattern") (spC K (ct_Pattern___bool K)) (XW 3 W)) (tCons (tOp (rOwnT2 K (He.ga K "Pattern") .Mult (spC K (ct_Pattern___mul K)) (XW 3 W)) (tVar 0) (tVar 1)) tNil)) tNil)))) (ts := fun a cls d => (tRet (tLst (tCons (tC (.str "number")) (tCons (tXf a cls d (He.ga K "BadNumber") "value" (tVar 2)) tNil))))) rfl rfl sc_law_refused.nd (i := 2) rfl rfl ⟨rfl, by decide, .inl T.g_BadNumber.1⟩ (takes_of rfl rfl rfl rfl)
      (fun W pn xe tk hp => (pss_one (ps_ret (pe_lst (pa_cons (pe_callTy (bool_ow T.sm_Pattern_bool (F_Pattern___bool.up (by decide)) hr (pass_xw tk)) rfl T.n_bool (by decide +kernel) (pa_cons (pe_op (op_ow T.bo_Pattern_Mult (F_Pattern___mul.up (by decide)) hr (pass_xw tk)) (pv 0) (pv 1)) pa_nil)) pa_nil)))))
      (fun a oe cls d pn hz hf => (pss_one (ps_ret (pe_lst (pa_cons pe_str (pa_cons (pe_xf T.xc_BadNumber.xf T.xn_BadNumber_value hz hf (pv 2)) pa_nil)))))))), fun ws ka out B F0 Q hC hR hX => ?_⟩)
  obtain ⟨a, b, rfl, t, d, rfl, rfl, hd, hp, hi, rfl, rfl⟩ := hC
  have tyw : TyWf K (He.ga K "Pattern") .Mult [] (.val d) := by
    cases d with
    | non => exact tyw_non T.bt_Pattern_Mult_NoneType
    | bl b => exact tyw_bl T.bt_Pattern_Mult_bool
    | int i => exact tyw_int T.bt_Pattern_Mult_int
    | lst ds => exact tyw_lst .vl T.bt_Pattern_Mult_list
    | tup ds => exact tyw_tup .vt T.bt_Pattern_Mult_tuple
    | str s => exact tyw_str T.bt_Pattern_Mult_str
    | _ => exact absurd rfl hd
  refine g_retX (C1 := He.ga K "BadNumber") (gs := [("value", d)]) (k2 := []) (evx_lst (evx_cb1 (evx_ownT (k2 := []) (kr := []) (k3 := []) (ev_var rfl) (ev_var rfl) .v tyw ⟨_, _, rfl, t, d, rfl, rfl, hd, hi, rfl, (pm_bad hp).symm⟩ rfl))) T.ex_BadNumber_BadNumber fun a dx => ?_
  exact g_ret hR ((evn_lst (ds := [.str "number", d]) (ea2 ev_str (ev_xf (j := 0) (ev_var rfl) rfl lk1)) (show 2 ≤ 100000 by decide)).lst.less (List.nil_sublist _)) ⟨rfl, rfl⟩
end
theorem word_eq {t : Tr} {ws : List Str} (hn : ∀ x ∈ ws, isNm x = true) : ((stD ws).all isNmD && accM (mcT t 0) ((stD ws).map strOf)) = decide (ws.length ∈ endsL ws t 0) := by
  have h1 : (stD ws).all isNmD = true := List.all_eq_true.mpr (names_ok hn).2
  have h2 : (stD ws).map strOf = ws := by
    unfold stD
    rw [List.map_map]
    exact List.map_id'' (fun _ => rfl) ws
  rw [h1, h2, Bool.true_and]
  have h3 : ws.length ∈ endsL ws t 0 ↔ Lg t ws := (endsL_iff ws t 0 ws.length (Nat.zero_le _)).trans ends_all
  cases hb : accM (mcT t 0) ws with
  | true => exact (decide_eq_true (h3.mpr (acc_iff.mp hb))).symm
  | false =>
    refine (decide_eq_false fun z => ?_).symm
    have := acc_iff.mpr (h3.mp z)
    rw [hb] at this
    cases this
theorem word_in {t : Tr} {ws : List Str} : ws.length ∈ endsL ws t 0 ↔ Lg t ws := (endsL_iff ws t 0 ws.length (Nat.zero_le _)).trans ends_all
/-- a row asked as a tuple, and as a list -/
theorem ctB_row {t : Tr} {ws : List Str} (hn : ∀ x ∈ ws, isNm x = true) : (ctB t (.tup (stD ws)) = true ↔ Lg t ws) ∧ (ctB t (.lst (stD ws)) = true ↔ Lg t ws) := by
  have e : ((stD ws).all isNmD && accM (mcT t 0) ((stD ws).map strOf)) = true ↔ Lg t ws := by rw [word_eq hn, decide_eq_true_eq]; exact word_in
  exact ⟨e, e⟩
theorem eq_of_iff {a b : Bool} {p : Prop} (h1 : a = true ↔ p) (h2 : b = true ↔ p) : a = b := Bool.eq_iff_iff.mpr (h1.trans h2.symm)
theorem nms_few {t : Tr} (hd : t.dep ≤ 3) (hn : niceT t) : t.nms.length < 64 := by
  have h1 := nms_le t hn
  have h2 := ats_le t
  have p3 : 2 ^ t.dep ≤ 2 ^ 3 := Nat.pow_le_pow_right (by decide) hd
  have e : (2 : Nat) ^ 3 = 8 := by decide
  omega
def ct_law_turned_right (K : PySem.W.Frag) : Ct := Ct3 fun a b c ka out => ∃ (t : Tr) (rs : List (List Str)), a = .val (PaD K (t.d false)) ∧ b = .val (t.d true) ∧ c = .val (.lst (rowD rs)) ∧ t.dep ≤ 3 ∧ niceT t ∧ (∀ r ∈ rs, r.length ≤ 8 ∧ ∀ x ∈ r, isNm x = true) ∧ ka = [] ∧ out = Rt (.bl true) []
section
variable {P : Program} {w : World} {K : PySem.W.Frag} {mg : Str → Option Value} {base : Heap}
theorem ok_law_turned_right (T : Tx K mg) (F_Pattern_names : Fn P w K mg base 22 (pga K (He.ga K "Pattern") "names") ["self"] (ct_Pattern_names K)) (F_Pattern___contains : Fn P w K mg base 26 (He.ma K (He.ga K "Pattern") "__contains__") ["self", "lanes"] (ct_Pattern___contains K)) (F_Pattern___neg : Fn P w K mg base 22 (He.ma K (He.ga K "Pattern") "__neg__") ["self"] (ct_Pattern___neg K)) (F_law_is_word : Fn P w K mg base 24 (He.ga K "_law_is_word") ["_law_tree_here", "_law_lanes"] (ct_law_is_word K)) : Fn P w K mg base 28 (He.ga K "_law_turned_right") ["_law_pattern_here", "_law_tree_here", "_law_words"] (ct_law_turned_right K) := by
  obtain ⟨fd, F⟩ := T.d_law_turned_right
  refine fn_ok F sc_law_turned_right (fun _ _ _ _ _ _ us hl => match us, hl with | [_, _, _], _ => rfl) ct3_len (fun cdv A outer s H E hr => ⟨_, (pss_cons (ps_set (i := 3) sc_law_turned_right.nd rfl (by first | exact Or.inl rfl | exact Or.inr rfl) (pe_un (un_ow T.sm_Pattern_neg (F_Pattern___neg.up (by decide)) hr (pass_own rfl rfl rfl rfl)) (pv 0)))
      (pss_cons (ps_set (i := 4) sc_law_turned_right.nd rfl (by first | exact Or.inl rfl | exact Or.inr rfl) (pe_un (un_ow T.sm_Pattern_neg (F_Pattern___neg.up (by decide)) hr (pass_own rfl rfl rfl rfl)) (pv 3)))
      (pss_cons (ps_for (passes_of rfl) rfl (pi_seq (pv 2)) (pg_name (i := 5) sc_law_turned_right.nd rfl (by first | exact Or.inl rfl | exact Or.inr rfl)) (pss_one (ps_if (PW.pt (pw_or (pt_cmpR (op_neP (by have := (hr).units; exact this)) (pe_cmpR (in_ow T.sm_Pattern_contains (F_Pattern___contains.up (by decide)) hr (pass_own rfl rfl rfl rfl)) (pe_callTy call_tupU rfl T.n_tuple (by decide +kernel) (pa_cons (pe_revL (pv 5)) pa_nil)) (pv 3) (by with_unfolding_all rfl)) (pe_call (F_law_is_word.up (by decide)).ok hr rfl T.g_law_is_word.1 T.g_law_is_word.2 (F_law_is_word.up (by decide)).bn .nil (pass_own rfl rfl rfl rfl) (pa_cons (pv 1) (pa_cons (pv 5) pa_nil))) (nomark _)) (pw_or1 (pt_cmpR (op_neP (by have := (hr).units; exact this)) (pe_cmpR (in_ow T.sm_Pattern_contains (F_Pattern___contains.up (by decide)) hr (pass_own rfl rfl rfl rfl)) (pv 5) (pv 4) (by with_unfolding_all rfl)) (pe_call (F_law_is_word.up (by decide)).ok hr rfl T.g_law_is_word.1 T.g_law_is_word.2 (F_law_is_word.up (by decide)).bn .nil (pass_own rfl rfl rfl rfl) (pa_cons (pv 1) (pa_cons (pv 5) pa_nil))) (nomark _)))))
      (pss_one (ps_ret pe_bl))
      pss_nil)))
      (pss_one (ps_ret (pe_cmpR (op_eqP (by have := (hr).units; exact this)) (pe_prop (pv 3) T.cl_Pattern T.pr_Pattern_names (F_Pattern_names.up (by decide)).ok hr (F_Pattern_names.up (by decide)).bn .nil passes_no rfl) (pe_prop (pv 0) T.cl_Pattern T.pr_Pattern_names (F_Pattern_names.up (by decide)).ok hr (F_Pattern_names.up (by decide)).bn .nil passes_no rfl) (nomark _))))))), fun ws ka out B F0 Q hC hR hX => ?_⟩)
  obtain ⟨a, b, c, rfl, t, rs, rfl, rfl, rfl, hd, hn, hr, rfl, rfl⟩ := hC
  have sm := nice_sm hn hd
  have hn2 := rvT_nice hn
  have hd2 : (rvT t).dep ≤ 3 := by rw [rvT_dep]; exact hd
  have sm2 := nice_sm hn2 hd2
  have up : ∀ {ro : Ro} {te : TE} {u : Tr} {E' : XK}, u.dep ≤ 3 → EvD K te ro [] (.val (PaD K (u.d false))) [] → EvD K (tUn (rOwn1 (He.ga K "Pattern") (spC K (ct_Pattern___neg K)) E') te) ro [] (.val (PaD K ((rvT u).d false))) [] := fun {ro te u E'} h z => ev_un z (ru_own (k1 := []) [] .v ⟨_, rfl, u, rfl, by omega, rfl, rfl⟩ fun _ _ z => z)
  refine q_asg (up hd (ev_var rfl)) ?_
  refine q_asg (up hd2 (ev_var rfl)) ?_
  rw [rvT_rv]
  have nn : ∀ {x y : Bool}, x = y → (!eqD (.bl x) (.bl y)) = false := fun {x y} e => by subst e; cases x <;> rfl
  refine q_forn (C := fun _ => True) (EvI.ws (ws' := rs.map fun r : List Str => W.val (.lst (stD r))) (ei_seq (ds := rowD rs) (ev_var rfl) .vl) (by unfold rowD; rw [List.map_map]; rfl))
    (fun i ro ka => (∃ v5, ro = [some (.val (PaD K (t.d false))), some (.val (t.d true)), some (.val (.lst (rowD rs))), some (.val (PaD K ((rvT t).d false))), some (.val (PaD K (t.d false))), v5]) ∧ ka = []) ⟨⟨_, rfl⟩, rfl⟩ (fun i ro ka _ => trivial) (fun i w ro2 ka2 ta' hw ⟨⟨v5, e1⟩, e2⟩ => ?_) (fun ro2 ka2 ta' ⟨⟨v5, e1⟩, e2⟩ _ => ?_)
  · subst e1 e2
    rw [List.getElem?_map] at hw
    obtain ⟨r, hri, rfl⟩ := Option.map_eq_some_iff.mp hw
    obtain ⟨r1, r2⟩ := hr r (List.mem_of_getElem? hri)
    have r3 : ∀ x ∈ r.reverse, isNm x = true := fun x hx => r2 x (List.mem_reverse.mp hx)
    have q1 : ctB (rvT t) (.tup (stD r.reverse)) = decide (r.length ∈ endsL r t 0) := eq_of_iff ((ctB_row r3).1.trans rvT_iff) (by rw [decide_eq_true_eq]; exact word_in)
    have q2 : ctB t (.lst (stD r)) = decide (r.length ∈ endsL r t 0) := eq_of_iff (ctB_row r2).2 (by rw [decide_eq_true_eq]; exact word_in)
    have ok1 : anOk (.tup (stD r.reverse)) := ⟨by rw [stD_len, List.length_reverse]; omega, (names_ok r3).1⟩
    have ok2 : anOk (.lst (stD r)) := ⟨by rw [stD_len]; omega, (names_ok r2).1⟩
    have rv : (stD r).reverse = stD r.reverse := (List.map_reverse ..).symm
    have wd : ∀ {ro : Ro} {E' : XK}, ro[1]? = some (some (.val (t.d true))) → ro[5]? = some (some (.val (.lst (stD r)))) → EvD K (tCall (spC K (ct_law_is_word K)) [] E' (tCons (tVar 1) (tCons (tVar 5) tNil))) ro [] (.val (.bl (decide (r.length ∈ endsL r t 0)))) [] := fun h1 h2 => ev_callP (ea2 (ev_var h1) (ev_var h2)) ⟨_, _, rfl, t, r, rfl, rfl, hd, r1, rfl, rfl⟩
    refine g_if (et_or0 ((et_test (ev_ne (d := .bl (ctB (rvT t) (.tup (stD r.reverse)))) (e := .bl (decide (r.length ∈ endsL r t 0))) (ev_inO ((ev_cb (ea1 (evn_revL (b := false) (ev_var rfl) .vl (.inl rfl)).lst) (rc_tupL .vl (.inl rfl))).to (w' := .val (.tup (stD r.reverse))) (by rw [rv])) (ev_var rfl) .v ⟨_, _, rfl, rvT t, _, rfl, rfl, by omega, sm2, ok1, rfl, rfl⟩) (wd rfl rfl) .v .v rfl rfl)).to (b := false) (nn q1))
      ((et_test (ev_ne (d := .bl (ctB t (.lst (stD r)))) (e := .bl (decide (r.length ∈ endsL r t 0))) (ev_inO (ev_var rfl) (ev_var rfl) .v ⟨_, _, rfl, t, _, rfl, rfl, by omega, sm, ok2, rfl, rfl⟩) (wd rfl rfl) .v .v rfl rfl)).to (b := false) (nn q2))) (fun z => by cases z) (fun _ => g_next (g_jp ⟨⟨_, rfl⟩, rfl⟩))
  · subst e1 e2
    have same : inOrd (rvT t).nms = inOrd t.nms := srt_eq ((List.perm_ext_iff_of_nodup (dedS_nd _) (dedS_nd _)).mpr fun x => by rw [mem_dedS, mem_dedS]; exact rvT_nms t)
    exact g_ret hR ((ev_eq (d := .tup (stD (inOrd (rvT t).nms))) (e := .tup (stD (inOrd t.nms))) (ev_prop (k1 := []) [] (ev_var rfl) .v ⟨_, rfl, rvT t, rfl, by omega, nms_few hd2 hn2, rfl, rfl⟩ (fun o k z => z)) (ev_prop (k1 := []) [] (ev_var rfl) .v ⟨_, rfl, t, rfl, by omega, nms_few hd hn, rfl, rfl⟩ (fun o k z => z)) .v .v (pl_stD _ 60) (pl_stD _ 60)).to (w' := .val (.bl true)) (congrArg (fun z => W.val (.bl z)) (by rw [same]; exact (eqL_stD _ _).trans (decide_eq_true rfl)))) ⟨rfl, rfl⟩
end
theorem rowsW_nodup {ns : List Str} (h : ns.Nodup) : ∀ n, (rowsW ns n).Nodup
  | 0 => by simp [rowsW]
  | n + 1 => by
    refine List.pairwise_flatMap.mpr ⟨fun r _ => ?_, (rowsW_nodup h n).imp fun {r1 r2} ne x hx y hy e => ?_⟩
    · refine List.pairwise_map.mpr (h.imp fun {a b} ne e => ne ?_)
      have := List.append_inj_right e rfl
      exact (List.cons.inj this).1
    · obtain ⟨a, _, rfl⟩ := List.mem_map.mp hx
      obtain ⟨b, _, rfl⟩ := List.mem_map.mp hy
      exact ne (List.append_inj_left' e rfl)
theorem allW_nodup {ns : List Str} (h : ns.Nodup) (n : Nat) : (allW ns n).Nodup := by
  refine List.pairwise_flatMap.mpr ⟨fun i _ => rowsW_nodup h i, List.pairwise_lt_range.imp fun {i j} lt x hx y hy e => ?_⟩
  have h1 := (rowsW_in ns i x hx).1
  have h2 := (rowsW_in ns j y hy).1
  rw [e] at h1
  omega
theorem rowsW_mem {ns : List Str} : ∀ (n : Nat) (r : List Str), r.length = n → (∀ x ∈ r, x ∈ ns) → r ∈ rowsW ns n
  | 0, r, hl, _ => by
    rw [List.eq_nil_of_length_eq_zero hl]
    exact List.mem_singleton.mpr rfl
  | n + 1, r, hl, h => by
    have hr : r ≠ [] := fun z => by rw [z] at hl; cases hl
    refine List.mem_flatMap.mpr ⟨r.dropLast, rowsW_mem n _ (by rw [List.length_dropLast, hl]; rfl) fun x hx => h x ((List.dropLast_sublist r).subset hx), List.mem_map.mpr ⟨r.getLast hr, h _ (List.getLast_mem hr), List.dropLast_concat_getLast hr⟩⟩
theorem allW_mem {ns : List Str} {n : Nat} {r : List Str} (hl : r.length ≤ n) (h : ∀ x ∈ r, x ∈ ns) : r ∈ allW ns n := List.mem_flatMap.mpr ⟨r.length, List.mem_range.mpr (by omega), rowsW_mem _ r rfl h⟩
/-- a pattern beside its tree -/
abbrev mkD (K : PySem.W.Frag) (t : Tr) : D := .tup [PaD K (t.d false), t.d true]
def ct_law (K : PySem.W.Frag) : Ct := Ct1 fun a ka out => ∃ ns, Scr K a ns ∧ ka = [] ∧ out = Rt (.bl true) []
section
variable {P : Program} {w : World} {K : PySem.W.Frag} {mg : Str → Option Value} {base : Heap}
theorem ok_law {fd : FuncData} (T : Tx K mg) (F_Pattern___contains : Fn P w K mg base 26 (He.ma K (He.ga K "Pattern") "__contains__") ["self", "lanes"] (ct_Pattern___contains K)) (F_Pattern___add : Fn P w K mg base 6 (He.ma K (He.ga K "Pattern") "__add__") ["self", "other"] (ct_Pattern___add K)) (F_Pattern___or : Fn P w K mg base 6 (He.ma K (He.ga K "Pattern") "__or__") ["self", "other"] (ct_Pattern___or K)) (F_Pattern___mul : Fn P w K mg base 8 (He.ma K (He.ga K "Pattern") "__mul__") ["self", "number"] (ct_Pattern___mul K)) (F_any_of : FnV P w K mg base 8 (He.ga K "any_of") (ct_any_of K)) (F_walk_of : FnV P w K mg base 8 (He.ga K "walk_of") (ct_walk_of K)) (F_repeated : Fn P w K mg base 6 (He.ga K "repeated") ["pattern"] (ct_repeated K)) (F_optional : Fn P w K mg base 6 (He.ga K "optional") ["pattern"] (ct_optional K)) (F_law_cell : Fn P w K mg base 4 (He.ga K "_law_cell") ["_law_script", "_law_k"] (ct_law_cell K)) (F_law_pool : Fn P w K mg base 4 (He.ga K "_law_pool") ["_law_cell_here"] (ct_law_pool K)) (F_law_take : Fn P w K mg base 4 (He.ga K "_law_take") ["_law_pool_here", "_law_many"] (ct_law_take K)) (F_law_names : Fn P w K mg base 6 (He.ga K "_law_names") ["_law_pool_here", "_law_many"] (ct_law_names K)) (F_law_tree : Fn P w K mg base 14 (He.ga K "_law_tree") ["_law_pool_here", "_law_lanes", "_law_depth"] (ct_law_tree 4 K)) (F_law_pattern : Fn P w K mg base 22 (He.ga K "_law_pattern") ["_law_tree_here"] (ct_law_pattern 5 K)) (F_law_is_word : Fn P w K mg base 24 (He.ga K "_law_is_word") ["_law_tree_here", "_law_lanes"] (ct_law_is_word K)) (F_law_all_words : Fn P w K mg base 4 (He.ga K "_law_all_words") ["_law_names_here", "_law_most"] (ct_law_all_words K)) (F_law_many_times : Fn P w K mg base 4 (He.ga K "_law_many_times") ["_law_tree_here", "_law_number"] (ct_law_many_times K)) (F_law_refused : Fn P w K mg base 29 (He.ga K "_law_refused") ["_law_pattern_here", "_law_number"] (ct_law_refused K)) (F_law_turned_right : Fn P w K mg base 28 (He.ga K "_law_turned_right") ["_law_pattern_here", "_law_tree_here", "_law_words"] (ct_law_turned_right K)) (F : FunD K "law" "law" (defArgs s_law) (defBody s_law) (defScope s_law) [] [] (He.ga K "law") fd) : FnOk P w K mg base (L2.CX P w) 31 (He.ga K "law") fd ["_law_script"] (spC K (ct_law K)) := by
  refine fn_okF F sc_law (fun _ _ _ _ _ _ us hl => match us, hl with | [_], _ => rfl) ct1_len (fun cdv A outer s H E hr => ⟨_, (pss_cons (ps_set (i := 1) sc_law.nd rfl (by first | exact Or.inl rfl | exact Or.inr rfl) (pe_call (F_law_pool.up (by decide)).ok hr rfl T.g_law_pool.1 T.g_law_pool.2 (F_law_pool.up (by decide)).bn .nil (pass_own rfl rfl rfl rfl) (pa_cons (pe_call (F_law_cell.up (by decide)).ok hr rfl T.g_law_cell.1 T.g_law_cell.2 (F_law_cell.up (by decide)).bn .nil (pass_own rfl rfl rfl rfl) (pa_cons (pv 0) (pa_cons pe_int pa_nil))) pa_nil)))
      (pss_cons (ps_set (i := 2) sc_law.nd rfl (by first | exact Or.inl rfl | exact Or.inr rfl) (pe_call (F_law_names.up (by decide)).ok hr rfl T.g_law_names.1 T.g_law_names.2 (F_law_names.up (by decide)).bn .nil (pass_own rfl rfl rfl rfl) (pa_cons (pv 1) (pa_cons pe_int pa_nil))))
      (pss_cons (ps_set (i := 3) sc_law.nd rfl (by first | exact Or.inl rfl | exact Or.inr rfl) (pe_call (F_law_tree.up (by decide)).ok hr rfl T.g_law_tree.1 T.g_law_tree.2 (F_law_tree.up (by decide)).bn .nil (pass_own rfl rfl rfl rfl) (pa_cons (pv 1) (pa_cons (pv 2) (pa_cons pe_int pa_nil)))))
      (pss_cons (ps_set (i := 4) sc_law.nd rfl (by first | exact Or.inl rfl | exact Or.inr rfl) (pe_call (F_law_tree.up (by decide)).ok hr rfl T.g_law_tree.1 T.g_law_tree.2 (F_law_tree.up (by decide)).bn .nil (pass_own rfl rfl rfl rfl) (pa_cons (pe_call (F_law_pool.up (by decide)).ok hr rfl T.g_law_pool.1 T.g_law_pool.2 (F_law_pool.up (by decide)).bn .nil (pass_own rfl rfl rfl rfl) (pa_cons (pe_call (F_law_cell.up (by decide)).ok hr rfl T.g_law_cell.1 T.g_law_cell.2 (F_law_cell.up (by decide)).bn .nil (pass_own rfl rfl rfl rfl) (pa_cons (pv 0) (pa_cons pe_int pa_nil))) pa_nil)) (pa_cons (pv 2) (pa_cons pe_int pa_nil)))))
      (pss_cons (ps_set (i := 5) sc_law.nd rfl (by first | exact Or.inl rfl | exact Or.inr rfl) (pe_call (F_law_pattern.up (by decide)).ok hr rfl T.g_law_pattern.1 T.g_law_pattern.2 (F_law_pattern.up (by decide)).bn .nil (pass_own rfl rfl rfl rfl) (pa_cons (pv 3) pa_nil)))
      (pss_cons (ps_set (i := 6) sc_law.nd rfl (by first | exact Or.inl rfl | exact Or.inr rfl) (pe_call (F_law_pattern.up (by decide)).ok hr rfl T.g_law_pattern.1 T.g_law_pattern.2 (F_law_pattern.up (by decide)).bn .nil (pass_own rfl rfl rfl rfl) (pa_cons (pv 4) pa_nil)))
      (pss_cons (ps_set (i := 7) sc_law.nd rfl (by first | exact Or.inl rfl | exact Or.inr rfl) (pe_op op_addU pe_int (pe_call (F_law_take.up (by decide)).ok hr rfl T.g_law_take.1 T.g_law_take.2 (F_law_take.up (by decide)).bn .nil (pass_own rfl rfl rfl rfl) (pa_cons (pv 1) (pa_cons pe_int pa_nil)))))
      (pss_cons (ps_set (i := 8) sc_law.nd rfl (by first | exact Or.inl rfl | exact Or.inr rfl) (pe_lst (pa_cons (pe_tup (pa_cons (pe_op (op_owB T.bo_Pattern_Add (F_Pattern___add.up (by decide)) hr (pass_own rfl rfl rfl rfl)) (pv 5) (pv 6)) (pa_cons (pe_tup (pa_cons pe_str (pa_cons (pv 3) (pa_cons (pv 4) pa_nil)))) pa_nil))) (pa_cons (pe_tup (pa_cons (pe_op (op_owB T.bo_Pattern_BitOr (F_Pattern___or.up (by decide)) hr (pass_own rfl rfl rfl rfl)) (pv 5) (pv 6)) (pa_cons (pe_tup (pa_cons pe_str (pa_cons (pv 3) (pa_cons (pv 4) pa_nil)))) pa_nil))) pa_nil))))
      (pss_cons (ps_set (i := 8) sc_law.nd rfl (by first | exact Or.inl rfl | exact Or.inr rfl) (pe_op op_addU (pv 8) (pe_lst (pa_cons (pe_tup (pa_cons (pe_op (op_ow T.bo_Pattern_Mult (F_Pattern___mul.up (by decide)) hr (pass_own rfl rfl rfl rfl)) (pv 5) (pv 7)) (pa_cons (pe_call (F_law_many_times.up (by decide)).ok hr rfl T.g_law_many_times.1 T.g_law_many_times.2 (F_law_many_times.up (by decide)).bn .nil (pass_own rfl rfl rfl rfl) (pa_cons (pv 3) (pa_cons (pv 7) pa_nil))) pa_nil))) (pa_cons (pe_tup (pa_cons (pe_op (op_owB T.bo_Pattern_Add (F_Pattern___add.up (by decide)) hr (pass_own rfl rfl rfl rfl)) (pv 5) (pv 5)) (pa_cons (pe_tup (pa_cons pe_str (pa_cons (pv 3) (pa_cons (pv 3) pa_nil)))) pa_nil))) pa_nil)))))
      (pss_cons (ps_set (i := 8) sc_law.nd rfl (by first | exact Or.inl rfl | exact Or.inr rfl) (pe_op op_addU (pv 8) (pe_lst (pa_cons (pe_tup (pa_cons (pe_call (F_repeated.up (by decide)).ok hr rfl T.g_repeated.1 T.g_repeated.2 (F_repeated.up (by decide)).bn .nil (pass_own rfl rfl rfl rfl) (pa_cons (pv 6) pa_nil)) (pa_cons (pe_tup (pa_cons pe_str (pa_cons (pv 4) pa_nil))) pa_nil))) (pa_cons (pe_tup (pa_cons (pe_call (F_optional.up (by decide)).ok hr rfl T.g_optional.1 T.g_optional.2 (F_optional.up (by decide)).bn .nil (pass_own rfl rfl rfl rfl) (pa_cons (pv 6) pa_nil)) (pa_cons (pe_tup (pa_cons pe_str (pa_cons (pv 4) pa_nil))) pa_nil))) pa_nil)))))
      (pss_cons (ps_set (i := 8) sc_law.nd rfl (by first | exact Or.inl rfl | exact Or.inr rfl) (pe_op op_addU (pv 8) (pe_lst (pa_cons (pe_tup (pa_cons (pv 5) (pa_cons (pv 3) pa_nil))) (pa_cons (pe_tup (pa_cons (pv 6) (pa_cons (pv 4) pa_nil))) pa_nil)))))
      (pss_cons (ps_set (i := 9) sc_law.nd rfl (by first | exact Or.inl rfl | exact Or.inr rfl) (pe_call (F_law_all_words.up (by decide)).ok hr rfl T.g_law_all_words.1 T.g_law_all_words.2 (F_law_all_words.up (by decide)).bn .nil (pass_own rfl rfl rfl rfl) (pa_cons (pv 2) (pa_cons pe_int pa_nil))))
      (pss_cons (ps_for (passes_of rfl) rfl (pi_seq (pv 8)) (pg_tup rfl (pgs_cons (pg_name (i := 10) sc_law.nd rfl (by first | exact Or.inl rfl | exact Or.inr rfl)) (pgs_cons (pg_name (i := 11) sc_law.nd rfl (by first | exact Or.inl rfl | exact Or.inr rfl)) pgs_nil))) (pss_one (ps_for (passes_of rfl) rfl (pi_seq (pv 9)) (pg_name (i := 12) sc_law.nd rfl (by first | exact Or.inl rfl | exact Or.inr rfl)) (pss_one (ps_if (pt_cmpR (op_neP (by have := (hr).units; exact this)) (pe_cmpR (in_ow T.sm_Pattern_contains (F_Pattern___contains.up (by decide)) hr (pass_own rfl rfl rfl rfl)) (pe_callTy call_tupU rfl T.n_tuple (by decide +kernel) (pa_cons (pv 12) pa_nil)) (pv 10) (by with_unfolding_all rfl)) (pe_call (F_law_is_word.up (by decide)).ok hr rfl T.g_law_is_word.1 T.g_law_is_word.2 (F_law_is_word.up (by decide)).bn .nil (pass_own rfl rfl rfl rfl) (pa_cons (pv 11) (pa_cons (pv 12) pa_nil))) (nomark _))
      (pss_one (ps_ret pe_bl))
      pss_nil)))))
      (pss_cons (ps_if (PW.pt (pw_or (pt_not (pt_val (pe_call (F_law_turned_right.up (by decide)).ok hr rfl T.g_law_turned_right.1 T.g_law_turned_right.2 (F_law_turned_right.up (by decide)).bn .nil (pass_own rfl rfl rfl rfl) (pa_cons (pv 5) (pa_cons (pv 3) (pa_cons (pv 9) pa_nil)))))) (pw_or1 (pt_not (pt_val (pe_call (F_law_turned_right.up (by decide)).ok hr rfl T.g_law_turned_right.1 T.g_law_turned_right.2 (F_law_turned_right.up (by decide)).bn .nil (pass_own rfl rfl rfl rfl) (pa_cons (pe_op (op_owB T.bo_Pattern_Add (F_Pattern___add.up (by decide)) hr (pass_own rfl rfl rfl rfl)) (pv 5) (pv 6)) (pa_cons (pe_tup (pa_cons pe_str (pa_cons (pv 3) (pa_cons (pv 4) pa_nil)))) (pa_cons (pv 9) pa_nil)))))))))
      (pss_one (ps_ret pe_bl))
      pss_nil)
      (pss_cons (ps_set (i := 13) sc_law.nd rfl (by first | exact Or.inl rfl | exact Or.inr rfl) (pe_ix ix_seq (pe_lst (pa_cons pe_int (pa_cons (pe_op op_sub pe_int pe_int) (pa_cons pe_bl (pa_cons pe_non (pa_cons pe_str (pa_cons (pe_tup (pa_cons pe_int pa_nil)) pa_nil))))))) (pe_call (F_law_take.up (by decide)).ok hr rfl T.g_law_take.1 T.g_law_take.2 (F_law_take.up (by decide)).bn .nil (pass_own rfl rfl rfl rfl) (pa_cons (pv 1) (pa_cons pe_int pa_nil))) fun _ _ => rfl))
      (pss_cons (ps_set (i := 14) sc_law.nd rfl (by first | exact Or.inl rfl | exact Or.inr rfl) (pe_call (F_law_refused.up (by decide)).ok hr rfl T.g_law_refused.1 T.g_law_refused.2 (F_law_refused.up (by decide)).bn .nil (pass_own rfl rfl rfl rfl) (pa_cons (pv 5) (pa_cons (pv 13) pa_nil))))
      (pss_cons (ps_if (PW.pt (pw_or (pt_cmpR (op_neP (by have := (hr).units; exact this)) (pe_ix ix_seq (pv 14) pe_int fun _ _ => rfl) pe_str (nomark _)) (pw_or (pt_cmpR (op_neP (by have := (hr).units; exact this)) (pe_ix ix_seq (pv 14) pe_int fun _ _ => rfl) (pv 13) (nomark _)) (pw_or1 (pt_cmpR (op_neP (by have := (hr).units; exact this)) (pe_callB call_isi rfl T.n_isinstance (by decide +kernel) (pa_cons (pe_ix ix_seq (pv 14) pe_int fun _ _ => rfl) (pa_cons (pe_bltn (v := .ty "bool") rfl T.n_bool (by decide +kernel) rfl) pa_nil))) (pe_callB call_isi rfl T.n_isinstance (by decide +kernel) (pa_cons (pv 13) (pa_cons (pe_bltn (v := .ty "bool") rfl T.n_bool (by decide +kernel) rfl) pa_nil))) (nomark _))))))
      (pss_one (ps_ret pe_bl))
      pss_nil)
      (pss_cons (ps_set (i := 15) sc_law.nd rfl (by first | exact Or.inl rfl | exact Or.inr rfl) (pe_op op_addU pe_int (pe_call (F_law_take.up (by decide)).ok hr rfl T.g_law_take.1 T.g_law_take.2 (F_law_take.up (by decide)).bn .nil (pass_own rfl rfl rfl rfl) (pa_cons (pv 1) (pa_cons pe_int pa_nil)))))
      (pss_cons (ps_set (i := 16) sc_law.nd rfl (by first | exact Or.inl rfl | exact Or.inr rfl) (pe_op (op_ow T.bo_Pattern_Mult (F_Pattern___mul.up (by decide)) hr (pass_own rfl rfl rfl rfl)) (pe_callS (F_any_of.up (by decide)) hr rfl T.g_any_of.1 T.g_any_of.2 (pass_own rfl rfl rfl rfl) (pa_cons (pe_ix ix_seq (pv 2) pe_int fun _ _ => rfl) (pa_cons (pe_ix ix_seq (pv 2) pe_int fun _ _ => rfl) pa_nil))) (pv 15)))
      (pss_cons (ps_setLc (i := 18) (te := (tOp (rIx K) (tVar 2) (tCall (spC K (ct_law_take K)) [] (fun _ _ _ => False) (tCons (tVar 1) (tCons (tC (.int 2)) tNil))))) (tt := tYes) (own := [("_law_k", 17)]) rfl sc_law.nd rfl rfl rfl (pi_range1 rfl T.n_range (pa_cons (pv 15) pa_nil)) (blk_ok ["_law_script", "_law_pool_here", "_law_names_here", "_law_one", "_law_two", "_law_first", "_law_second", "_law_number", "_law_made", "_law_words", "_law_pattern_here", "_law_tree_here", "_law_lanes", "_law_wrong", "_law_told", "_law_often", "_law_single", "_law_k", "_law_row", "_law_walk"] (defScope s_law) rfl rfl (by decide +kernel)) (fun _ _ _ _ _ => (pg_name (i := 17) sc_law.nd rfl (by first | exact Or.inl rfl | exact Or.inr rfl))) (fun _ _ _ _ _ => pts_nil) (fun _ _ _ _ _ => (pe_ix ix_seq (pv 2) (pe_call (F_law_take.up (by decide)).ok hr rfl T.g_law_take.1 T.g_law_take.2 (F_law_take.up (by decide)).bn .nil passes_no (pa_cons (pv 1) (pa_cons pe_int pa_nil))) fun _ _ => rfl)))
      (pss_cons (ps_if (PW.pt (pw_or (pt_cmpR (ni_ow T.sm_Pattern_contains (F_Pattern___contains.up (by decide)) hr (pass_own rfl rfl rfl rfl)) (pv 18) (pv 16) (by with_unfolding_all rfl)) (pw_or (pt_cmpR (in_ow T.sm_Pattern_contains (F_Pattern___contains.up (by decide)) hr (pass_own rfl rfl rfl rfl)) (pe_slice sl_U (pv 18) (po_some pe_int) po_none) (pv 16) (by with_unfolding_all rfl)) (pw_or (pt_cmpR (in_ow T.sm_Pattern_contains (F_Pattern___contains.up (by decide)) hr (pass_own rfl rfl rfl rfl)) (pe_op op_addU (pv 18) (pe_slice sl_U (pv 18) po_none (po_some pe_int))) (pv 16) (by with_unfolding_all rfl)) (pw_or1 (pt_cmpR (in_ow T.sm_Pattern_contains (F_Pattern___contains.up (by decide)) hr (pass_own rfl rfl rfl rfl)) (pe_op op_addU (pe_lst (pa_cons (pe_ix ix_seq (pv 2) pe_int fun _ _ => rfl) pa_nil)) (pe_slice sl_U (pv 18) (po_some pe_int) po_none)) (pv 16) (by with_unfolding_all rfl)))))))
      (pss_one (ps_ret pe_bl))
      pss_nil)
      (pss_cons (ps_set (i := 19) sc_law.nd rfl (by first | exact Or.inl rfl | exact Or.inr rfl) (pe_callS (F_walk_of.up (by decide)) hr rfl T.g_walk_of.1 T.g_walk_of.2 (pass_own rfl rfl rfl rfl) (pa_cons (pe_ix ix_seq (pv 2) pe_int fun _ _ => rfl) (pa_cons (pe_ix ix_seq (pv 2) pe_int fun _ _ => rfl) (pa_cons (pe_ix ix_seq (pv 2) pe_int fun _ _ => rfl) pa_nil)))))
      (pss_one (ps_ret (pe_cmpR (op_eqP (by have := (hr).units; exact this)) (pe_lc (te := (tVar 18)) (tt := (tTest (tOp (rOwnIn (He.ga K "Pattern") false (spC K (ct_Pattern___contains K)) (fun _ _ _ => False)) (tVar 18) (tVar 19)))) (own := [("_law_row", 18)]) rfl sc_law.nd (pi_seq (pv 9)) (blk_ok ["_law_script", "_law_pool_here", "_law_names_here", "_law_one", "_law_two", "_law_first", "_law_second", "_law_number", "_law_made", "_law_words", "_law_pattern_here", "_law_tree_here", "_law_lanes", "_law_wrong", "_law_told", "_law_often", "_law_single", "_law_k", "_law_row", "_law_walk"] (defScope s_law) rfl rfl (by decide +kernel)) (fun _ _ _ _ _ => (pg_name (i := 18) sc_law.nd rfl (by first | exact Or.inl rfl | exact Or.inr rfl))) (fun _ _ _ _ _ => (pts_one (pt_cmpR (in_ow T.sm_Pattern_contains (F_Pattern___contains.up (by decide)) hr passes_no) (pv 18) (pv 19) (by with_unfolding_all rfl)))) (fun _ _ _ _ _ => (pv 18))) (pe_lst (pa_cons (pe_lst (pa_cons (pe_ix ix_seq (pv 2) pe_int fun _ _ => rfl) (pa_cons (pe_ix ix_seq (pv 2) pe_int fun _ _ => rfl) (pa_cons (pe_ix ix_seq (pv 2) pe_int fun _ _ => rfl) pa_nil)))) pa_nil)) (nomark _)))))))))))))))))))))))))), fun ws ka out B F0 Q hC hR hX => ?_⟩)
  obtain ⟨s0, rfl, zs, hs0, rfl, rfl⟩ := hC
  refine q_asgN (evn_callP (ea1 (ev_callP (ea2 (ev_var rfl) ev_int) ⟨_, _, rfl, zs, 0, hs0, rfl, rfl, rfl⟩)) ⟨_, rfl, _, rfl, rfl, rfl⟩) (fun a => ?_)
  refine q_call (kr := []) (k1 := [(a, .lst (plOf (zs.getD 0 0)).ds)]) (ea2 (ev_var rfl) ev_int) ⟨_, _, rfl, a, _, 0, 3, rfl, rfl, rfl, plOf_ok _, by decide, by decide, by decide, by decide, rfl⟩ (fun o k ⟨ss, p', h, _⟩ => ⟨_, h⟩) ?_
  rintro _ _ ⟨ns, p1, e, rfl, hp1, hln, hnm, hnd⟩
  cases e
  obtain ⟨n0, n1, n2, rfl⟩ : ∃ x y z, ns = [x, y, z] := by
    match ns, hln with
    | [x, y, z], _ => exact ⟨x, y, z, rfl⟩
  have hne : ([n0, n1, n2] : List Str) ≠ [] := List.cons_ne_nil _ _
  refine q_call (kr := []) (k1 := [(a, .lst p1.ds)]) (ea3 (ev_var rfl) (ev_var rfl) ev_int) ⟨_, _, _, rfl, a, p1, 0 + 30, [n0, n1, n2], 2, rfl, rfl, rfl, rfl, hp1, by decide, by decide, by decide, hne, Nat.le_of_ble_eq_true rfl, hnm, rfl⟩ (fun o k ⟨ss, p', h, _⟩ => ⟨_, h⟩) ?_
  rintro _ _ ⟨t, p2, e, rfl, hp2, td, tn, tm⟩
  cases e
  refine q_asgR (evr_callAR (P2 := fun w k => ∃ (u : Tr) (a2 : Addr) (p' : Pl), w = .val (u.d true) ∧ k = [(a2, .lst (Pl.ds p')), (a, .lst (Pl.ds p2))] ∧ u.dep ≤ 2 ∧ niceT u)
    (ear_cN (evn_callP (ea1 (ev_callP (ea2 (ev_var rfl) ev_int) ⟨_, _, rfl, zs, 1, hs0, rfl, rfl, rfl⟩)) ⟨_, rfl, _, rfl, rfl, rfl⟩) fun a2 => (ea2 (ev_var rfl) ev_int).toR) fun ws k hw => ?_) ?_
  · obtain ⟨a2, ws', rfl, rfl, rfl⟩ := hw
    refine ⟨[(a2, .lst (plOf (zs.getD 1 0)).ds), (a, .lst (Pl.ds p2))], [(a2, .lst (plOf (zs.getD 1 0)).ds)], [(a, .lst (Pl.ds p2))], _, List.Perm.swap _ _ _, rfl, ⟨_, _, _, rfl, a2, _, 0, [n0, n1, n2], 2, rfl, rfl, rfl, rfl, plOf_ok _, by decide, by decide, by decide, hne, Nat.le_of_ble_eq_true rfl, hnm, rfl⟩, fun o k ⟨ss, p', h, _⟩ => ⟨_, h⟩, ?_⟩
    rintro _ _ ⟨u, p3, e, rfl, hp3, ud, un, um⟩
    cases e
    exact ⟨u, a2, p3, rfl, rfl, ud, un⟩
  rintro _ _ ⟨u, a2, p3, rfl, rfl, ud, un⟩
  refine Gp.less (k1 := [(a, .lst (Pl.ds p2))]) ?_ (List.sublist_cons_self _ _)
  refine q_asg (ev_callP (ea1 (ev_var rfl)) ⟨_, rfl, t, rfl, by omega, tn, rfl, rfl⟩) ?_
  refine q_asg (ev_callP (ea1 (ev_var rfl)) ⟨_, rfl, u, rfl, by omega, un, rfl, rfl⟩) ?_
  have t3 := tk_lt p2 (m := 2) (by decide)
  have hp3 := tk_ok hp2 (m := 2) (by decide)
  obtain ⟨n, hn, hn1⟩ : ∃ n : Nat, 1 + (tk p2 2).1 = ((n : Nat) : Int) + 1 ∧ n ≤ 1 := ⟨(tk p2 2).1.toNat, by omega, by omega⟩
  refine q_asg (w := .val (.int ((n : Int) + 1))) ((ev_addI ev_int (ev_take (kr := []) (ev_var rfl) ev_int (hp2.up (by decide)) (by decide) (by decide))).to (by rw [hn])) ?_
  generalize (tk p2 2).2 = p4 at *
  have pmu : ∀ {ro : Ro} {k : Cells} {te tf : TE} {v : Tr} {m : Nat} {E' : XK}, m ≤ 900 → EvD K te ro k (.val (PaD K (v.d false))) k → EvD K tf ro k (.val (.int ((m : Int) + 1))) k → EvD K (tOp (rOwnT2 K (He.ga K "Pattern") .Mult (spC K (ct_Pattern___mul K)) E') te tf) ro k (.val (PaD K ((powT v m).d false))) k := fun {ro k te tf v m E'} hm h h2 =>
    ev_op h h2 (rv_ownT (k1 := []) k .v (tyw_int T.bt_Pattern_Mult_int) ⟨_, _, rfl, v, .int ((m : Int) + 1), rfl, rfl, (fun z => by cases z), (fun i e => by cases e; omega), rfl, rfl⟩ fun o k z => by
      have e : pmOut K v (.int ((m : Int) + 1)) = Rt (PaD K ((powT v m).d false)) [] := (if_pos (by omega)).trans (by rw [show ((m : Int) + 1).toNat - 1 = m by omega])
      rw [e] at z
      exact z)
  refine q_asg (w := .val (.lst ([.join t u, .either t u].map (mkD K)))) (evn_lst (ds := [mkD K (.join t u), mkD K (.either t u)]) (ea2
    (ev_tup (ds := [PaD K ((Tr.join t u).d false), (Tr.join t u).d true]) (ea2 (ev_opB (ev_var rfl) (ev_var rfl) .v .v ⟨_, _, rfl, t, u, rfl, rfl, rfl, rfl⟩) (ev_tup (ds := [.str "join", t.d true, u.d true]) (ea3 ev_str (ev_var rfl) (ev_var rfl)) (Nat.le_of_ble_eq_true rfl))) (Nat.le_of_ble_eq_true rfl))
    (ev_tup (ds := [PaD K ((Tr.either t u).d false), (Tr.either t u).d true]) (ea2 (ev_opB (ev_var rfl) (ev_var rfl) .v .v ⟨_, _, rfl, t, u, rfl, rfl, rfl, rfl⟩) (ev_tup (ds := [.str "either", t.d true, u.d true]) (ea3 ev_str (ev_var rfl) (ev_var rfl)) (Nat.le_of_ble_eq_true rfl))) (Nat.le_of_ble_eq_true rfl))) (Nat.le_of_ble_eq_true rfl)).lst ?_
  refine q_asg (k1 := [(a, .lst (Pl.ds p4))]) (w := .val (.lst ([.join t u, .either t u, powT t n, .join t t].map (mkD K)))) ?cat ?_
  case cat => exact (ev_catL (ds := [mkD K (.join t u), mkD K (.either t u)]) (es := [mkD K (powT t n), mkD K (.join t t)]) (ev_var rfl) (evn_lst (ds := [mkD K (powT t n), mkD K (.join t t)]) (ea2
    (ev_tup (ds := [PaD K ((powT t n).d false), (powT t n).d true]) (ea2 (pmu (by omega) (ev_var rfl) (ev_var rfl)) (ev_callP (ea2 (ev_var rfl) (ev_var rfl)) ⟨_, _, rfl, t, n, rfl, rfl, by omega, rfl, rfl⟩)) (Nat.le_of_ble_eq_true rfl))
    (ev_tup (ds := [PaD K ((Tr.join t t).d false), (Tr.join t t).d true]) (ea2 (ev_opB (ev_var rfl) (ev_var rfl) .v .v ⟨_, _, rfl, t, t, rfl, rfl, rfl, rfl⟩) (ev_tup (ds := [.str "join", t.d true, t.d true]) (ea3 ev_str (ev_var rfl) (ev_var rfl)) (Nat.le_of_ble_eq_true rfl))) (Nat.le_of_ble_eq_true rfl))) (Nat.le_of_ble_eq_true rfl)).lst (Nat.le_of_ble_eq_true rfl))
  refine q_asg (w := .val (.lst ([.join t u, .either t u, powT t n, .join t t, .rep u, .opt u].map (mkD K)))) (ev_catL (ds := [mkD K (.join t u), mkD K (.either t u), mkD K (powT t n), mkD K (.join t t)]) (es := [mkD K (.rep u), mkD K (.opt u)]) (ev_var rfl) (evn_lst (ds := [mkD K (.rep u), mkD K (.opt u)]) (ea2
    (ev_tup (ds := [PaD K ((Tr.rep u).d false), (Tr.rep u).d true]) (ea2 (ev_callP (ea1 (ev_var rfl)) ⟨_, rfl, u, rfl, rfl, rfl⟩) (ev_tup (ds := [.str "repeat", u.d true]) (ea2 ev_str (ev_var rfl)) (Nat.le_of_ble_eq_true rfl))) (Nat.le_of_ble_eq_true rfl))
    (ev_tup (ds := [PaD K ((Tr.opt u).d false), (Tr.opt u).d true]) (ea2 (ev_callP (ea1 (ev_var rfl)) ⟨_, rfl, u, rfl, rfl, rfl⟩) (ev_tup (ds := [.str "option", u.d true]) (ea2 ev_str (ev_var rfl)) (Nat.le_of_ble_eq_true rfl))) (Nat.le_of_ble_eq_true rfl))) (Nat.le_of_ble_eq_true rfl)).lst (Nat.le_of_ble_eq_true rfl)) ?_
  generalize hms : ([.join t u, .either t u, powT t n, .join t t, .rep u, .opt u, t, u] : List Tr) = ms
  refine q_asg (w := .val (.lst (ms.map (mkD K)))) ((ev_catL (ds := [mkD K (.join t u), mkD K (.either t u), mkD K (powT t n), mkD K (.join t t), mkD K (.rep u), mkD K (.opt u)]) (es := [mkD K t, mkD K u]) (ev_var rfl) (evn_lst (ds := [mkD K t, mkD K u]) (ea2
    (ev_tup (ds := [PaD K (t.d false), t.d true]) (ea2 (ev_var rfl) (ev_var rfl)) (Nat.le_of_ble_eq_true rfl))
    (ev_tup (ds := [PaD K (u.d false), u.d true]) (ea2 (ev_var rfl) (ev_var rfl)) (Nat.le_of_ble_eq_true rfl))) (Nat.le_of_ble_eq_true rfl)).lst (Nat.le_of_ble_eq_true rfl)).to (by rw [← hms]; rfl)) ?_
  have hm : ∀ v ∈ ms, v.dep ≤ 3 ∧ niceT v := by
    have pd := powT_dep t n
    have hj : (Tr.join t u).dep ≤ 3 := by show max t.dep u.dep + 1 ≤ 3; omega
    have he : (Tr.either t u).dep ≤ 3 := by show max t.dep u.dep + 1 ≤ 3; omega
    have ht : (Tr.join t t).dep ≤ 3 := by show max t.dep t.dep + 1 ≤ 3; omega
    have hr : (Tr.rep u).dep ≤ 3 := by show u.dep + 1 ≤ 3; omega
    have ho : (Tr.opt u).dep ≤ 3 := by show u.dep + 1 ≤ 3; omega
    intro v hv
    rw [← hms] at hv
    simp only [List.mem_cons, List.not_mem_nil, or_false] at hv
    rcases hv with rfl | rfl | rfl | rfl | rfl | rfl | rfl | rfl
    · exact ⟨hj, tn, un⟩
    · exact ⟨he, tn, un⟩
    · exact ⟨by omega, powT_nice tn n⟩
    · exact ⟨ht, tn, tn⟩
    · exact ⟨hr, un⟩
    · exact ⟨ho, un⟩
    · exact ⟨by omega, tn⟩
    · exact ⟨by omega, un⟩
  refine q_asg (ev_callP (ea2 (ev_var rfl) ev_int) ⟨_, _, rfl, [n0, n1, n2], rfl, rfl, Nat.le_of_ble_eq_true rfl, rfl, rfl⟩) ?_
  generalize hrs : allW [n0, n1, n2] 4 = rs
  have hr : ∀ r ∈ rs, r.length ≤ 8 ∧ ∀ x ∈ r, isNm x = true := fun r h => by
    obtain ⟨h1, h2⟩ := allW_in r (hrs ▸ h)
    exact ⟨by omega, fun x hx => hnm x (h2 x hx)⟩
  have nn : ∀ {x y : Bool}, x = y → (!eqD (.bl x) (.bl y)) = false := fun {x y} e => by subst e; cases x <;> rfl
  have rws : ∀ {ro : Ro} {k : Cells}, ro[9]? = some (some (.val (.lst (rowD rs)))) → EvI K (iSeq K (tVar 9)) ro k (rs.map fun r : List Str => W.val (.lst (stD r))) (fun _ => True) k := fun h => EvI.ws (ei_seq (ds := rowD rs) (ev_var h) .vl) (by unfold rowD; rw [List.map_map]; rfl)
  refine q_forT (ei_map (ts := ms) (f := mkD K) (ev_var rfl)) (fun i ro ka => (∃ v10 v11 v12, ro = [some s0, some (.val (.adr a)), some (.val (.lst (stD [n0, n1, n2]))), some (.val (t.d true)), some (.val (u.d true)), some (.val (PaD K (t.d false))), some (.val (PaD K (u.d false))), some (.val (.int ((n : Int) + 1))), some (.val (.lst (ms.map (mkD K)))), some (.val (.lst (rowD rs))), v10, v11, v12, none, none, none, none, none, none, none]) ∧ ka = [(a, .lst (Pl.ds p4))])
    ⟨⟨_, _, _, rfl⟩, rfl⟩ (fun i ro ka _ => trivial) (fun i w ro2 ka2 ta' hw2 ⟨⟨v10, v11, v12, e1⟩, e2⟩ => ?_) (fun ro2 ka2 ta' ⟨⟨v10, v11, v12, e1⟩, e2⟩ hsub => ?_)
  · subst e1 e2
    rw [List.getElem?_map] at hw2
    obtain ⟨v, hv, rfl⟩ := Option.map_eq_some_iff.mp hw2
    obtain ⟨vd, vn⟩ := hm v (List.mem_of_getElem? hv)
    have vs := nice_sm vn vd
    refine ⟨_, at_tup rfl (al_cons at_n (al_cons at_n al_nil)), ?_⟩
    refine g_forn (rws rfl) (fun j ro ka => (∃ v12, ro = [some s0, some (.val (.adr a)), some (.val (.lst (stD [n0, n1, n2]))), some (.val (t.d true)), some (.val (u.d true)), some (.val (PaD K (t.d false))), some (.val (PaD K (u.d false))), some (.val (.int ((n : Int) + 1))), some (.val (.lst (ms.map (mkD K)))), some (.val (.lst (rowD rs))), some (.val (PaD K (v.d false))), some (.val (v.d true)), v12, none, none, none, none, none, none, none]) ∧ ka = [(a, .lst (Pl.ds p4))])
      ⟨⟨_, rfl⟩, rfl⟩ (fun i ro ka _ => trivial) (fun j w ro2 ka2 ta2 hw3 ⟨⟨v12, e1⟩, e2⟩ => ?_) (fun ro2 ka2 ta2 ⟨⟨v12, e1⟩, e2⟩ hsub => g_jpH hsub ⟨⟨_, _, _, e1⟩, e2⟩)
    subst e1 e2
    rw [List.getElem?_map] at hw3
    obtain ⟨r, hri, rfl⟩ := Option.map_eq_some_iff.mp hw3
    obtain ⟨r1, r2⟩ := hr r (List.mem_of_getElem? hri)
    have ok1 : anOk (.tup (stD r)) := ⟨by rw [stD_len]; omega, (names_ok r2).1⟩
    have q1 : ctB v (.tup (stD r)) = decide (r.length ∈ endsL r v 0) := eq_of_iff (ctB_row r2).1 (by rw [decide_eq_true_eq]; exact word_in)
    exact g_if ((et_test (ev_ne (d := .bl (ctB v (.tup (stD r)))) (e := .bl (decide (r.length ∈ endsL r v 0))) (ev_inO (ev_cb (ea1 (ev_var rfl)) (rc_tupL .vl (.inl rfl))) (ev_var rfl) .v ⟨_, _, rfl, v, _, rfl, rfl, by omega, vs, ok1, rfl, rfl⟩) (ev_callP (ea2 (ev_var rfl) (ev_var rfl)) ⟨_, _, rfl, v, r, rfl, rfl, vd, r1, rfl, rfl⟩) .v .v rfl rfl)).to (b := false) (nn q1)) (fun z => by cases z) (fun _ => g_next (g_jp ⟨⟨_, rfl⟩, rfl⟩))
  subst e1 e2
  have jd : (Tr.join t u).dep ≤ 3 := by show max t.dep u.dep + 1 ≤ 3; omega
  refine q_when (et_or0 ((et_not (et_B (b := true) (ev_callP (ea3 (ev_var rfl) (ev_var rfl) (ev_var rfl)) ⟨_, _, _, rfl, t, rs, rfl, rfl, rfl, by omega, tn, hr, rfl, rfl⟩))).to rfl)
    ((et_not (et_B (b := true) (ev_callP (ea3 (ev_opB (ev_var rfl) (ev_var rfl) .v .v ⟨_, _, rfl, t, u, rfl, rfl, rfl, rfl⟩) (ev_tup (ds := [.str "join", t.d true, u.d true]) (ea3 ev_str (ev_var rfl) (ev_var rfl)) (Nat.le_of_ble_eq_true rfl)) (ev_var rfl)) ⟨_, _, _, rfl, .join t u, rs, rfl, rfl, rfl, jd, ⟨tn, un⟩, hr, rfl, rfl⟩))).to rfl)) (fun z => by cases z) (fun _ => ?_)
  have t6 := tk_lt p4 (m := 6) (by decide)
  have hp4 := tk_ok hp3 (m := 6) (by decide)
  have hwr : ∃ d, atI [D.int 0, .int (0 - 1), .bl true, .non, .str "2", .tup [.int 1]] (tk p4 6).1 = some d ∧ tyD d ≠ none ∧ isPos d = false ∧ (∀ i, d = .int i → i ≤ 1000) ∧ eqD d d = true ∧ pl 61 d = true ∧ ∃ t b, tyD d = some t ∧ kitOne K (.type t) (.type "bool") = some b := by
    have h5 : (tk p4 6).1.toNat = 0 ∨ (tk p4 6).1.toNat = 1 ∨ (tk p4 6).1.toNat = 2 ∨ (tk p4 6).1.toNat = 3 ∨ (tk p4 6).1.toNat = 4 ∨ (tk p4 6).1.toNat = 5 := by omega
    rcases h5 with h5 | h5 | h5 | h5 | h5 | h5
    · exact ⟨.int 0, atZ t6.1 (by rw [h5]; rfl), (fun z => by cases z), rfl, (fun i e => by cases e; decide), rfl, rfl, _, _, rfl, T.kt_int_bool⟩
    · exact ⟨.int (0 - 1), atZ t6.1 (by rw [h5]; rfl), (fun z => by cases z), rfl, (fun i e => by cases e; decide), rfl, rfl, _, _, rfl, T.kt_int_bool⟩
    · exact ⟨.bl true, atZ t6.1 (by rw [h5]; rfl), (fun z => by cases z), rfl, (fun i e => by cases e), rfl, rfl, _, _, rfl, T.kt_bool_bool⟩
    · exact ⟨.non, atZ t6.1 (by rw [h5]; rfl), (fun z => by cases z), rfl, (fun i e => by cases e), rfl, rfl, _, _, rfl, T.kt_NoneType_bool⟩
    · exact ⟨.str "2", atZ t6.1 (by rw [h5]; rfl), (fun z => by cases z), rfl, (fun i e => by cases e), by decide, rfl, _, _, rfl, T.kt_str_bool⟩
    · exact ⟨.tup [.int 1], atZ t6.1 (by rw [h5]; rfl), (fun z => by cases z), rfl, (fun i e => by cases e), eqD_refl 60 _ rfl, rfl, _, _, rfl, T.kt_tuple_bool⟩
  obtain ⟨d, hd, hdt0, hdp0, hdi, hde, hdp, tt, bb, hdt, hdk⟩ := hwr
  refine q_asg (ev_ixV (evn_lst (ds := [.int 0, .int (0 - 1), .bl true, .non, .str "2", .tup [.int 1]]) (ea_cons ev_int (ea_cons (ev_subI ev_int ev_int) (ea_cons ev_bl (ea_cons ev_non (ea_cons ev_str (ea1 (ev_tup (ds := [.int 1]) (ea1 ev_int) (Nat.le_of_ble_eq_true rfl))))))))).lst (ev_take (kr := []) (ev_var rfl) ev_int (hp3.up (by omega)) (by decide) (by decide)) .vl hd) ?_
  generalize (tk p4 6).2 = p5 at *
  refine q_asg (ev_callP (ea2 (ev_var rfl) (ev_var rfl)) ⟨_, _, rfl, t, d, rfl, rfl, hdt0, hdp0, hdi, rfl, rfl⟩) ?_
  refine q_when (et_or0 ((et_test (ev_neS (ev_ixV (ev_var rfl) ev_int .vl at0) ev_str)).to (b := false) (by decide)) (et_or0 ((et_test (ev_ne (ev_ixV (d := d) (ev_var rfl) ev_int .vl (atI_nat (j := 1) rfl)) (ev_var rfl) .v .v hdp hdp)).to (b := false) (by rw [hde]; rfl)) ((et_test (ev_ne (ev_isi (ev_ixV (d := d) (ev_var rfl) ev_int .vl (atI_nat (j := 1) rfl)) (tw_of hdt) hdk) (ev_isi (ev_var rfl) (tw_of hdt) hdk) .v .v rfl rfl)).to (b := false) (by cases bb <;> rfl)))) (fun z => by cases z) (fun _ => ?_)
  have t7 := tk_lt p5 (m := 8) (by decide)
  have hp5 := tk_ok hp4 (m := 8) (by decide)
  obtain ⟨m, hmo, hm7⟩ : ∃ m : Nat, 1 + (tk p5 8).1 = ((m : Nat) : Int) + 1 ∧ m ≤ 7 := ⟨(tk p5 8).1.toNat, by omega, by omega⟩
  refine q_asg (w := .val (.int ((m : Int) + 1))) ((ev_addI ev_int (ev_take (kr := []) (ev_var rfl) ev_int (hp4.up (by decide)) (by decide) (by decide))).to (by rw [hmo])) ?_
  generalize (tk p5 8).2 = p6 at *
  obtain ⟨sg, hsg⟩ : ∃ sg : Tr, powT (Tr.«at» true [n0, n1]) m = sg := ⟨_, rfl⟩
  refine q_asg (k1 := [(a, .lst (Pl.ds p6))]) (w := .val (PaD K (sg.d false))) (hsg ▸ pmu (by omega) (ev_callP (ea2 (ev_ixV (ev_var rfl) ev_int .vl at0) (ev_ixV (ev_var rfl) ev_int .vl (atI_nat (j := 1) rfl))) ⟨stD [n0, n1], rfl, Nat.le_of_ble_eq_true rfl, _, rfl, [n0, n1], rfl, List.cons_ne_nil _ _, fun x hx => hnm x (by simp at hx ⊢; rcases hx with h | h <;> simp [h]), rfl, rfl⟩) (ev_var rfl)) ?_
  have sgl : ∀ w, Lg sg w ↔ w.length = m + 1 ∧ ∀ x ∈ w, x ∈ [n0, n1] := fun w => hsg ▸ pow_lane m w
  have sgs : sg.sm := by
    have hf : niceT sg := hsg ▸ powT_nice (t := .at true [n0, n1]) ⟨by show 2 ≤ 3; decide, fun _ => List.cons_ne_nil _ _, fun x hx => hnm x (by simp at hx ⊢; rcases hx with h | h <;> simp [h])⟩ m
    obtain ⟨h1, h2⟩ := powT_ats (Tr.«at» true [n0, n1]) m
    rw [hsg] at h1 h2
    have h1 : sg.ats = (m + 1) * 1 := h1
    have h2 : sg.ops = (m + 1) * 0 + m := h2
    refine sm_of (n := 8) (nice_few hf) (by omega) (by decide) ?_
    have : sg.ops ≤ 7 := by omega
    calc sg.ops * (8 * 8) ≤ 7 * (8 * 8) := Nat.mul_le_mul_right _ this
      _ ≤ 90000 := by decide
  have sgd : sg.dep < 8 := by
    have := powT_dep (Tr.«at» true [n0, n1]) m
    rw [hsg] at this
    have : sg.dep ≤ 0 + m := this
    omega
  refine q_asgNR (evr_lc (ei_range1 (ea1 (ev_var rfl)) (by omega) (by omega)) (by decide) (by simp; omega) (fun i acc k => ∃ gs p', acc = stD gs ∧ gs.length = i ∧ (∀ g ∈ gs, g ∈ [n0, n1]) ∧ k = [(a, .lst (Pl.ds p'))] ∧ p'.Ok (1000 + (i : Nat))) ⟨[], p6, rfl, rfl, fun _ h => (by cases h), rfl, hp5.up (by decide)⟩ (fun i acc k _ => ⟨trivial, fun _ => trivial⟩) (fun i w acc k hw ⟨gs, p', e1, e2, e3, e4, hp'⟩ => ?hs)) (fun nd k1 c ⟨acc, e0, gs, p', e1, e2, e3, e4, hp'⟩ => ?go)
  case hs =>
    subst e1 e4
    have hi2 : i < m + 1 := by
      have := (List.getElem?_eq_some_iff.mp hw).1
      simpa using this
    have t8 := tk_lt p' (m := 2) (by decide)
    have o8 := tk_ok hp' (m := 2) (by decide)
    obtain ⟨g, hg, hg2⟩ : ∃ g, atI (stD [n0, n1, n2]) (tk p' 2).1 = some (.str g) ∧ g ∈ [n0, n1] := by
      have h5 : (tk p' 2).1.toNat = 0 ∨ (tk p' 2).1.toNat = 1 := by omega
      rcases h5 with h5 | h5
      · exact ⟨n0, atZ t8.1 (by rw [h5]; rfl), List.mem_cons_self⟩
      · exact ⟨n1, atZ t8.1 (by rw [h5]; rfl), List.mem_cons_of_mem _ List.mem_cons_self⟩
    exact .inr ⟨_, _, .str g, et_yes, ev_ixV (ev_var rfl) (ev_take (kr := []) (ev_var rfl) ev_int (hp'.up (by omega)) (by decide) (by decide)) .vl hg, gs ++ [g], _, stD_app gs [g], by rw [List.length_append, e2]; rfl, fun x hx => by
      rcases List.mem_append.mp hx with hx | hx
      · exact e3 x hx
      · rw [List.mem_singleton.mp hx]; exact hg2, rfl, o8.up (by push_cast; omega)⟩
  case go =>
  subst e0 e1 e4
  have gl : gs.length = m + 1 := by rw [e2]; simp
  refine Gp.frz (i := 18) (j := 1) rfl rfl ?_
  refine Gp.less (k1 := []) ?_ (List.nil_sublist _)
  have in3 : ∀ x, x ∈ [n0, n1] → x ∈ [n0, n1, n2] := fun x hx => by
    simp only [List.mem_cons, List.not_mem_nil, or_false] at hx ⊢
    rcases hx with h | h
    · exact .inl h
    · exact .inr (.inl h)
  have n2out : n2 ∉ [n0, n1] := by
    have h := hnd
    simp only [List.nodup_cons, List.mem_cons, List.not_mem_nil, or_false, not_or] at h ⊢
    exact ⟨fun z => h.1.2 z.symm, fun z => h.2.1 z.symm⟩
  have ask : ∀ w : List Str, w.length ≤ 100 → (∀ x ∈ w, x ∈ [n0, n1, n2]) → (ctB sg (.lst (stD w)) = true ↔ w.length = m + 1 ∧ ∀ x ∈ w, x ∈ [n0, n1]) ∧ anOk (.lst (stD w)) := fun w h1 h2 => ⟨(ctB_row fun x hx => hnm x (h2 x hx)).2.trans (sgl w), by rw [stD_len]; omega, (names_ok fun x hx => hnm x (h2 x hx)).1⟩
  have cons : ∀ w : List Str, w.length ≤ 100 → (∀ x ∈ w, x ∈ [n0, n1, n2]) → ct_Pattern___contains K [.val (PaD K (sg.d false)), .val (.lst (stD w))] [] (Rt (.bl (ctB sg (.lst (stD w)))) []) := fun w h1 h2 => ⟨_, _, rfl, sg, _, rfl, rfl, sgd, sgs, (ask w h1 h2).2, rfl, rfl⟩
  have no : ∀ {w : List Str} (h1 : w.length ≤ 100) (h2 : ∀ x ∈ w, x ∈ [n0, n1, n2]), ¬ (w.length = m + 1 ∧ ∀ x ∈ w, x ∈ [n0, n1]) → ctB sg (.lst (stD w)) = false := fun {w} h1 h2 h => Bool.eq_false_iff.mpr fun z => h ((ask w h1 h2).1.mp z)
  have g3 : ∀ x ∈ gs, x ∈ [n0, n1, n2] := fun x hx => in3 x (e3 x hx)
  have cut1 : cutD (stD gs) (some 1) none = stD (gs.drop 1) := by
    rw [cut_from (by decide) (by rw [stD_len]; omega)]
    unfold stD
    rw [List.map_drop]
    rfl
  have cut2 : cutD (stD gs) none (some 1) = stD (gs.take 1) := by
    rw [cut_to' (by decide)]
    unfold stD
    rw [List.map_take]
    rfl
  have d1 : ∀ x ∈ gs.drop 1, x ∈ [n0, n1, n2] := fun x hx => g3 x (List.mem_of_mem_drop hx)
  have d2 : ∀ x ∈ gs ++ gs.take 1, x ∈ [n0, n1, n2] := fun x hx => (List.mem_append.mp hx).elim (g3 x) fun h => g3 x (List.mem_of_mem_take h)
  have d3 : ∀ x ∈ [n2] ++ gs.drop 1, x ∈ [n0, n1, n2] := fun x hx => (List.mem_append.mp hx).elim (fun h => by rw [List.mem_singleton.mp h]; simp) (d1 x)
  have l1 : (gs.drop 1).length = m := by rw [List.length_drop, gl]; rfl
  have l2 : (gs ++ gs.take 1).length = m + 2 := by rw [List.length_append, List.length_take, gl]; omega
  have l3 : ([n2] ++ gs.drop 1).length = m + 1 := by rw [List.length_append, l1]; show 1 + m = m + 1; omega
  have c1 : ctB sg (.lst (stD gs)) = true := (ask gs (by omega) g3).1.mpr ⟨gl, e3⟩
  have c2 := no (by omega) d1 fun z => by have := z.1; omega
  have c3 := no (by omega) d2 fun z => by have := z.1; omega
  have c4 := no (by omega) d3 fun z => n2out (z.2 n2 (List.mem_append_left _ List.mem_cons_self))
  have drp : ∀ {ro : Ro}, ro[18]? = some (some (.val (.lst (stD gs)))) → EvD K (tSl (rSlU K) (tVar 18) (tPart (tC (.int 1))) tNoPart) ro [] (.val (.lst (stD (gs.drop 1)))) [] := fun h => (evn_sl (ev_var h) (eo_some ev_int) eo_none .vl).lst.to (congrArg (fun z => W.val (.lst z)) cut1)
  refine q_when (et_or0 ((et_test (ev_niO (c := ctB sg (.lst (stD gs))) (ev_var rfl) (ev_var rfl) .v (cons gs (by omega) g3))).to (b := false) (by rw [c1]; rfl))
    (et_or0 ((et_test (ev_inO (c := ctB sg (.lst (stD (gs.drop 1)))) (drp rfl) (ev_var rfl) .v (cons _ (by omega) d1))).to (b := false) c2)
    (et_or0 ((et_test (ev_inO (c := ctB sg (.lst (stD (gs ++ gs.take 1)))) ((ev_catL (ev_var rfl) ((evn_sl (ev_var rfl) eo_none (eo_some ev_int) .vl).lst.to (w' := .val (.lst (stD (gs.take 1)))) (congrArg (fun z => W.val (.lst z)) cut2)) (by rw [stD_len, stD_len, List.length_take]; omega)).to (by rw [stD_app])) (ev_var rfl) .v (cons _ (by omega) d2))).to (b := false) c3)
    ((et_test (ev_inO (c := ctB sg (.lst (stD ([n2] ++ gs.drop 1)))) ((ev_catL (evn_lst (ds := [.str n2]) (ea1 (ev_ixV (ev_var rfl) ev_int .vl (atI_nat (j := 2) rfl))) (Nat.le_of_ble_eq_true rfl)).lst (drp rfl) (by rw [stD_len, List.length_singleton]; omega)).to (w' := .val (.lst (stD ([n2] ++ gs.drop 1)))) (congrArg (fun z => W.val (.lst z)) (stD_app [n2] (gs.drop 1)))) (ev_var rfl) .v (cons _ (by omega) d3))).to (b := false) c4)))) (fun z => by cases z) (fun _ => ?_)
  have wn : ∀ x ∈ [n0, n1, n0], x ∈ [n0, n1, n2] := fun x hx => by
    simp only [List.mem_cons, List.not_mem_nil, or_false] at hx ⊢
    rcases hx with h | h | h
    · exact .inl h
    · exact .inr (.inl h)
    · exact .inl h
  refine q_asg (ev_callP (ea3 (ev_ixV (ev_var rfl) ev_int .vl at0) (ev_ixV (ev_var rfl) ev_int .vl (atI_nat (j := 1) rfl)) (ev_ixV (ev_var rfl) ev_int .vl at0)) ⟨stD [n0, n1, n0], rfl, Nat.le_of_ble_eq_true rfl, _, rfl, n0, [n1, n0], rfl, Nat.le_of_ble_eq_true rfl, fun x hx => hnm x (wn x hx), rfl, rfl⟩) ?_
  have wsm : (wdT n0 [n1, n0]).sm := sm_of (n := 8) ⟨⟨Nat.le_of_ble_eq_true rfl, Nat.le_of_ble_eq_true rfl⟩, Nat.le_of_ble_eq_true rfl⟩ (Nat.le_of_ble_eq_true rfl) (by decide) (Nat.le_of_ble_eq_true rfl)
  have wd2 : (wdT n0 [n1, n0]).dep < 8 := Nat.le_of_ble_eq_true rfl
  have rin : ∀ r ∈ rs, r.length ≤ 8 ∧ anOk (.lst (stD r)) ∧ ctB (wdT n0 [n1, n0]) (.lst (stD r)) = decide (r = [n0, n1, n0]) := fun r h => by
    obtain ⟨h1, h2⟩ := hr r h
    exact ⟨h1, ⟨by rw [stD_len]; omega, (names_ok h2).1⟩, eq_of_iff ((ctB_row h2).2.trans wd3) (by rw [decide_eq_true_eq])⟩
  have rl : rs.length ≤ 341 := hrs ▸ (allW_len (ns := [n0, n1, n2]) (Nat.le_of_ble_eq_true rfl) 4 (Nat.le_refl _)).1
  have one : rs.filter (fun r => ctB (wdT n0 [n1, n0]) (.lst (stD r))) = [[n0, n1, n0]] := by
    rw [List.filter_congr fun r h => (rin r h).2.2]
    exact filter_one (hrs ▸ allW_nodup hnd 4) (hrs ▸ allW_mem (Nat.le_of_ble_eq_true rfl) wn)
  have plw : ([D.lst (stD [n0, n1, n0])] : List D).all (pl 60) = true := by
    show (pl 60 (.lst (stD [n0, n1, n0])) && true) = true
    rw [Bool.and_true]
    exact pl_stD _ 59
  refine g_ret hR ((ev_eq (d := .lst [.lst (stD [n0, n1, n0])]) (e := .lst [.lst (stD [n0, n1, n0])]) ((evn_filt (k1 := []) (xs := rs) (g := fun r => W.val (.lst (stD r))) (f := fun r => D.lst (stD r)) (p := fun r => ctB (wdT n0 [n1, n0]) (.lst (stD r))) (rws rfl) (by decide) (by omega) (C := fun _ => True) ⟨trivial, fun _ => trivial⟩ (fun r hri => et_test (ev_inO (ev_var rfl) (ev_var rfl) .v ⟨_, _, rfl, wdT n0 [n1, n0], _, rfl, rfl, wd2, wsm, (rin r hri).2.1, rfl, rfl⟩)) (fun r hri _ => ev_var rfl)).lst.to (by rw [one]; rfl)) (evn_lst (ds := [.lst (stD [n0, n1, n0])]) (ea1 (evn_lst (ds := stD [n0, n1, n0]) (ea3 (ev_ixV (ev_var rfl) ev_int .vl at0) (ev_ixV (ev_var rfl) ev_int .vl (atI_nat (j := 1) rfl)) (ev_ixV (ev_var rfl) ev_int .vl at0)) (Nat.le_of_ble_eq_true rfl)).lst) (Nat.le_of_ble_eq_true rfl)).lst .v .v plw plw).to ?fin) ⟨rfl, rfl⟩
  case fin => exact congrArg (fun z => W.val (.bl z)) (eqD_refl 61 _ plw)
end
def exs0 : List Fx := [fStr "LETTERS" "abcdefghijklmnopqrstuvwxyz", fFree "len", fInt "LONGEST" 8, fFree "isinstance", fFree "str", fFree "all", fStr "DIGITS" "0123456789", fFree "bool", fFree "int", fGlo "is_whole", fGlo "is_name", fFree "list", fFree "tuple", fFree "sorted", fX0 "EmptyWalk", fGlo "EmptyWalk", fGlo "BadName", fGlo "read_tree", fGlo "crossed", fMkr "Machine", fGlo "Machine", fFree "any", fCls "Machine", fMeth "Machine" "is_behind", fMeth "Machine" "takes", fFree "range", fMeth "Machine" "started", fMeth "Machine" "after", fMeth "Machine" "is_done", fGlo "opposite"]
def exs1 : List Fx := [fGlo "tree_names", fGlo "in_order", fGlo "accepts", fGlo "made_machine", fGlo "are_names", fGlo "Pattern", fMkr "Pattern", fGlo "joined", fGlo "is_count", fGlo "BadNumber", fGlo "check_lanes", fGlo "word_pattern", fGlo "_law_take", fGlo "_law_tree", fGlo "none_of", fGlo "any_of", fGlo "_law_atom", fGlo "_law_pattern", fGlo "repeated", fGlo "optional", fBo "Pattern" .BitOr, fBo "Pattern" .Add, fFree "enumerate", fGlo "_law_takes", fGlo "_law_ends_of", fGlo "_law_distinct", fSm "Pattern" "__bool__", fBo "Pattern" .Mult, fXc "BadNumber", fNoat "BadNumber" "value"]
def exs2 : List Fx := [fSm "Pattern" "__neg__", fSm "Pattern" "__contains__", fGlo "_law_is_word", fCls "Pattern", fProp "Pattern" "names", fGlo "_law_pool", fGlo "_law_cell", fGlo "_law_names", fGlo "_law_many_times", fGlo "_law_all_words", fGlo "_law_turned_right", fGlo "_law_refused", fGlo "walk_of", fXc "BadName", fXi "BadName", fNoat "BadName" "name", fXi "BadNumber", fGlo "law", fKit "NoneType" "str" false, fKit "bool" "str" false, fKit "int" "str" false, fKit "list" "str" false, fKit "tuple" "str" false, fKit "str" "str" true, fKit "NoneType" "int" false, fKit "str" "int" false, fKit "list" "int" false, fKit "tuple" "int" false, fKit "int" "int" true, fKit "int" "bool" false]
def exs3 : List Fx := [fKit "bool" "int" true, fKit "bool" "bool" true, fKit "NoneType" "tuple" false, fKit "NoneType" "list" false, fKit "str" "tuple" false, fKit "str" "list" false, fKit "int" "tuple" false, fKit "int" "list" false, fKit "dict" "tuple" false, fKit "dict" "list" false, fKit "tuple" "tuple" true, fKit "tuple" "list" false, fKit "list" "tuple" false, fKit "list" "list" true, fNoat "Machine" "atoms", fNoat "Machine" "firsts", fNoat "Machine" "lasts", fNoat "Machine" "pairs", fNoat "Machine" "is_optional", fNoP, fNoat "Pattern" "tree", fClsI "Pattern", fKitO "Pattern" "Pattern" true, fBoT "Pattern" .Mult "NoneType", fBoT "Pattern" .Mult "bool", fBoT "Pattern" .Mult "int", fBoT "Pattern" .Mult "list", fBoT "Pattern" .Mult "tuple", fBoT "Pattern" .Mult "str", fExm "BadNumber" "BadNumber" true]
def exs4 : List Fx := [fKit "NoneType" "bool" false, fKit "str" "bool" false, fKit "tuple" "bool" false]
abbrev exs : List Fx := exs0 ++ exs1 ++ exs2 ++ exs3 ++ exs4
def dfs0 : List Df := [⟨fun K => (He.ga K "is_name"), "is_name", "is_name", defArgs s_is_name, defBody s_is_name, defScope s_is_name, fun K => []⟩, ⟨fun K => (He.ga K "is_whole"), "is_whole", "is_whole", defArgs s_is_whole, defBody s_is_whole, defScope s_is_whole, fun K => []⟩, ⟨fun K => (He.ga K "is_count"), "is_count", "is_count", defArgs s_is_count, defBody s_is_count, defScope s_is_count, fun K => []⟩, ⟨fun K => (He.ga K "are_names"), "are_names", "are_names", defArgs s_are_names, defBody s_are_names, defScope s_are_names, fun K => []⟩, ⟨fun K => (He.ga K "in_order"), "in_order", "in_order", defArgs s_in_order, defBody s_in_order, defScope s_in_order, fun K => []⟩, ⟨fun K => (He.ga K "check_lanes"), "check_lanes", "check_lanes", defArgs s_check_lanes, defBody s_check_lanes, defScope s_check_lanes, fun K => []⟩, ⟨fun K => (He.ga K "crossed"), "crossed", "crossed", defArgs s_crossed, defBody s_crossed, defScope s_crossed, fun K => []⟩, ⟨fun K => (He.ga K "read_tree"), "read_tree", "read_tree", defArgs s_read_tree, defBody s_read_tree, defScope s_read_tree, fun K => []⟩, ⟨fun K => (He.ma K (He.ga K "Machine") "__init__"), "__init__", "Machine.__init__", defArgs s_Machine___init, defBody s_Machine___init, defScope s_Machine___init, fun K => []⟩, ⟨fun K => (He.ga K "made_machine"), "made_machine", "made_machine", defArgs s_made_machine, defBody s_made_machine, defScope s_made_machine, fun K => []⟩, ⟨fun K => (He.ma K (He.ga K "Machine") "takes"), "takes", "Machine.takes", defArgs s_Machine_takes, defBody s_Machine_takes, defScope s_Machine_takes, fun K => []⟩, ⟨fun K => (He.ma K (He.ga K "Machine") "is_behind"), "is_behind", "Machine.is_behind", defArgs s_Machine_is_behind, defBody s_Machine_is_behind, defScope s_Machine_is_behind, fun K => []⟩, ⟨fun K => (He.ma K (He.ga K "Machine") "after"), "after", "Machine.after", defArgs s_Machine_after, defBody s_Machine_after, defScope s_Machine_after, fun K => []⟩, ⟨fun K => (He.ma K (He.ga K "Machine") "started"), "started", "Machine.started", defArgs s_Machine_started, defBody s_Machine_started, defScope s_Machine_started, fun K => []⟩, ⟨fun K => (He.ma K (He.ga K "Machine") "is_done"), "is_done", "Machine.is_done", defArgs s_Machine_is_done, defBody s_Machine_is_done, defScope s_Machine_is_done, fun K => []⟩, ⟨fun K => (He.ga K "accepts"), "accepts", "accepts", defArgs s_accepts, defBody s_accepts, defScope s_accepts, fun K => []⟩, ⟨fun K => (He.ga K "joined"), "joined", "joined", defArgs s_joined, defBody s_joined, defScope s_joined, fun K => []⟩, ⟨fun K => (He.ga K "opposite"), "opposite", "opposite", defArgs s_opposite, defBody s_opposite, defScope s_opposite, fun K => []⟩, ⟨fun K => (He.ga K "tree_names"), "tree_names", "tree_names", defArgs s_tree_names, defBody s_tree_names, defScope s_tree_names, fun K => []⟩, ⟨fun K => (He.ma K (He.ga K "Pattern") "__init__"), "__init__", "Pattern.__init__", defArgs s_Pattern___init, defBody s_Pattern___init, defScope s_Pattern___init, fun K => []⟩, ⟨fun K => (pga K (He.ga K "Pattern") "names"), "names", "Pattern.names", defArgs s_Pattern_names, defBody s_Pattern_names, defScope s_Pattern_names, fun K => []⟩, ⟨fun K => (He.ma K (He.ga K "Pattern") "__contains__"), "__contains__", "Pattern.__contains__", defArgs s_Pattern___contains, defBody s_Pattern___contains, defScope s_Pattern___contains, fun K => []⟩, ⟨fun K => (He.ma K (He.ga K "Pattern") "__bool__"), "__bool__", "Pattern.__bool__", defArgs s_Pattern___bool, defBody s_Pattern___bool, defScope s_Pattern___bool, fun K => []⟩, ⟨fun K => (He.ma K (He.ga K "Pattern") "__add__"), "__add__", "Pattern.__add__", defArgs s_Pattern___add, defBody s_Pattern___add, defScope s_Pattern___add, fun K => []⟩, ⟨fun K => (He.ma K (He.ga K "Pattern") "__or__"), "__or__", "Pattern.__or__", defArgs s_Pattern___or, defBody s_Pattern___or, defScope s_Pattern___or, fun K => []⟩, ⟨fun K => (He.ma K (He.ga K "Pattern") "__mul__"), "__mul__", "Pattern.__mul__", defArgs s_Pattern___mul, defBody s_Pattern___mul, defScope s_Pattern___mul, fun K => []⟩, ⟨fun K => (He.ma K (He.ga K "Pattern") "__neg__"), "__neg__", "Pattern.__neg__", defArgs s_Pattern___neg, defBody s_Pattern___neg, defScope s_Pattern___neg, fun K => []⟩, ⟨fun K => (He.ga K "any_of"), "any_of", "any_of", defArgs s_any_of, defBody s_any_of, defScope s_any_of, fun K => []⟩, ⟨fun K => (He.ga K "none_of"), "none_of", "none_of", defArgs s_none_of, defBody s_none_of, defScope s_none_of, fun K => []⟩, ⟨fun K => (He.ga K "word_pattern"), "word_pattern", "word_pattern", defArgs s_word_pattern, defBody s_word_pattern, defScope s_word_pattern, fun K => []⟩]
def dfs1 : List Df := [⟨fun K => (He.ga K "walk_of"), "walk_of", "walk_of", defArgs s_walk_of, defBody s_walk_of, defScope s_walk_of, fun K => []⟩, ⟨fun K => (He.ga K "repeated"), "repeated", "repeated", defArgs s_repeated, defBody s_repeated, defScope s_repeated, fun K => []⟩, ⟨fun K => (He.ga K "optional"), "optional", "optional", defArgs s_optional, defBody s_optional, defScope s_optional, fun K => []⟩, ⟨fun K => (He.ga K "_law_cell"), "_law_cell", "_law_cell", defArgs s_law_cell, defBody s_law_cell, defScope s_law_cell, fun K => []⟩, ⟨fun K => (He.ga K "_law_pool"), "_law_pool", "_law_pool", defArgs s_law_pool, defBody s_law_pool, defScope s_law_pool, fun K => []⟩, ⟨fun K => (He.ga K "_law_take"), "_law_take", "_law_take", defArgs s_law_take, defBody s_law_take, defScope s_law_take, fun K => []⟩, ⟨fun K => (He.ga K "_law_names"), "_law_names", "_law_names", defArgs s_law_names, defBody s_law_names, defScope s_law_names, fun K => []⟩, ⟨fun K => (He.ga K "_law_tree"), "_law_tree", "_law_tree", defArgs s_law_tree, defBody s_law_tree, defScope s_law_tree, fun K => []⟩, ⟨fun K => (He.ga K "_law_atom"), "_law_atom", "_law_atom", defArgs s_law_atom, defBody s_law_atom, defScope s_law_atom, fun K => []⟩, ⟨fun K => (He.ga K "_law_pattern"), "_law_pattern", "_law_pattern", defArgs s_law_pattern, defBody s_law_pattern, defScope s_law_pattern, fun K => []⟩, ⟨fun K => (He.ga K "_law_takes"), "_law_takes", "_law_takes", defArgs s_law_takes, defBody s_law_takes, defScope s_law_takes, fun K => []⟩, ⟨fun K => (He.ga K "_law_distinct"), "_law_distinct", "_law_distinct", defArgs s_law_distinct, defBody s_law_distinct, defScope s_law_distinct, fun K => []⟩, ⟨fun K => (He.ga K "_law_ends_of"), "_law_ends_of", "_law_ends_of", defArgs s_law_ends_of, defBody s_law_ends_of, defScope s_law_ends_of, fun K => []⟩, ⟨fun K => (He.ga K "_law_is_word"), "_law_is_word", "_law_is_word", defArgs s_law_is_word, defBody s_law_is_word, defScope s_law_is_word, fun K => []⟩, ⟨fun K => (He.ga K "_law_all_words"), "_law_all_words", "_law_all_words", defArgs s_law_all_words, defBody s_law_all_words, defScope s_law_all_words, fun K => []⟩, ⟨fun K => (He.ga K "_law_many_times"), "_law_many_times", "_law_many_times", defArgs s_law_many_times, defBody s_law_many_times, defScope s_law_many_times, fun K => []⟩, ⟨fun K => (He.ga K "_law_refused"), "_law_refused", "_law_refused", defArgs s_law_refused, defBody s_law_refused, defScope s_law_refused, fun K => []⟩, ⟨fun K => (He.ga K "_law_turned_right"), "_law_turned_right", "_law_turned_right", defArgs s_law_turned_right, defBody s_law_turned_right, defScope s_law_turned_right, fun K => []⟩, ⟨fun K => (He.ga K "law"), "law", "law", defArgs s_law, defBody s_law, defScope s_law, fun K => []⟩, ⟨fun K => (He.ma K (He.ga K "BadName") "__init__"), "__init__", "BadName.__init__", defArgs s_BadName___init, defBody s_BadName___init, defScope s_BadName___init, fun K => []⟩, ⟨fun K => (He.ma K (He.ga K "BadNumber") "__init__"), "__init__", "BadNumber.__init__", defArgs s_BadNumber___init, defBody s_BadNumber___init, defScope s_BadNumber___init, fun K => []⟩]
abbrev dfs : List Df := dfs0 ++ dfs1
theorem tx_of {K : PySem.W.Frag} {mg : Str → Option Value} {h : Heap} (X : K.In h) (G : h.Ns mainGlobals mg) (c : SaysY exs dfs K) : Tx K mg where
  v_LETTERS := (let ⟨t, e⟩ := He.str_ok X G (c.fact 0 (f := fStr "LETTERS" "abcdefghijklmnopqrstuvwxyz")); ⟨_, e, t, rfl⟩)
  n_len := He.free_ok X G (c.fact 1 (f := fFree "len"))
  v_LONGEST := (let ⟨t, e⟩ := He.int_ok X G (c.fact 2 (f := fInt "LONGEST" 8)); ⟨_, e, t, rfl⟩)
  n_isinstance := He.free_ok X G (c.fact 3 (f := fFree "isinstance"))
  n_str := He.free_ok X G (c.fact 4 (f := fFree "str"))
  n_all := He.free_ok X G (c.fact 5 (f := fFree "all"))
  v_DIGITS := (let ⟨t, e⟩ := He.str_ok X G (c.fact 6 (f := fStr "DIGITS" "0123456789")); ⟨_, e, t, rfl⟩)
  n_bool := He.free_ok X G (c.fact 7 (f := fFree "bool"))
  n_int := He.free_ok X G (c.fact 8 (f := fFree "int"))
  g_is_whole := ⟨He.glo_ok X G (He.ba (c.fact 9 (f := fGlo "is_whole"))).1, (He.ba (c.fact 9 (f := fGlo "is_whole"))).2⟩
  g_is_name := ⟨He.glo_ok X G (He.ba (c.fact 10 (f := fGlo "is_name"))).1, (He.ba (c.fact 10 (f := fGlo "is_name"))).2⟩
  n_list := He.free_ok X G (c.fact 11 (f := fFree "list"))
  n_tuple := He.free_ok X G (c.fact 12 (f := fFree "tuple"))
  n_sorted := He.free_ok X G (c.fact 13 (f := fFree "sorted"))
  x0_EmptyWalk := He.exc_ok (c.fact 14 (f := fX0 "EmptyWalk"))
  g_EmptyWalk := ⟨He.glo_ok X G (He.ba (c.fact 15 (f := fGlo "EmptyWalk"))).1, (He.ba (c.fact 15 (f := fGlo "EmptyWalk"))).2⟩
  g_BadName := ⟨He.glo_ok X G (He.ba (c.fact 16 (f := fGlo "BadName"))).1, (He.ba (c.fact 16 (f := fGlo "BadName"))).2⟩
  g_read_tree := ⟨He.glo_ok X G (He.ba (c.fact 17 (f := fGlo "read_tree"))).1, (He.ba (c.fact 17 (f := fGlo "read_tree"))).2⟩
  g_crossed := ⟨He.glo_ok X G (He.ba (c.fact 18 (f := fGlo "crossed"))).1, (He.ba (c.fact 18 (f := fGlo "crossed"))).2⟩
  mk_Machine := He.mkr_ok (c.fact 19 (f := fMkr "Machine"))
  g_Machine := ⟨He.glo_ok X G (He.ba (c.fact 20 (f := fGlo "Machine"))).1, (He.ba (c.fact 20 (f := fGlo "Machine"))).2⟩
  n_any := He.free_ok X G (c.fact 21 (f := fFree "any"))
  cl_Machine := He.cls_ok (c.fact 22 (f := fCls "Machine"))
  me_Machine_is_behind := He.meth_ok (c.fact 23 (f := fMeth "Machine" "is_behind"))
  me_Machine_takes := He.meth_ok (c.fact 24 (f := fMeth "Machine" "takes"))
  n_range := He.free_ok X G (c.fact 25 (f := fFree "range"))
  me_Machine_started := He.meth_ok (c.fact 26 (f := fMeth "Machine" "started"))
  me_Machine_after := He.meth_ok (c.fact 27 (f := fMeth "Machine" "after"))
  me_Machine_is_done := He.meth_ok (c.fact 28 (f := fMeth "Machine" "is_done"))
  g_opposite := ⟨He.glo_ok X G (He.ba (c.fact 29 (f := fGlo "opposite"))).1, (He.ba (c.fact 29 (f := fGlo "opposite"))).2⟩
  g_tree_names := ⟨He.glo_ok X G (He.ba (c.fact 30 (f := fGlo "tree_names"))).1, (He.ba (c.fact 30 (f := fGlo "tree_names"))).2⟩
  g_in_order := ⟨He.glo_ok X G (He.ba (c.fact 31 (f := fGlo "in_order"))).1, (He.ba (c.fact 31 (f := fGlo "in_order"))).2⟩
  g_accepts := ⟨He.glo_ok X G (He.ba (c.fact 32 (f := fGlo "accepts"))).1, (He.ba (c.fact 32 (f := fGlo "accepts"))).2⟩
  g_made_machine := ⟨He.glo_ok X G (He.ba (c.fact 33 (f := fGlo "made_machine"))).1, (He.ba (c.fact 33 (f := fGlo "made_machine"))).2⟩
  g_are_names := ⟨He.glo_ok X G (He.ba (c.fact 34 (f := fGlo "are_names"))).1, (He.ba (c.fact 34 (f := fGlo "are_names"))).2⟩
  g_Pattern := ⟨He.glo_ok X G (He.ba (c.fact 35 (f := fGlo "Pattern"))).1, (He.ba (c.fact 35 (f := fGlo "Pattern"))).2⟩
  mk_Pattern := He.mkr_ok (c.fact 36 (f := fMkr "Pattern"))
  g_joined := ⟨He.glo_ok X G (He.ba (c.fact 37 (f := fGlo "joined"))).1, (He.ba (c.fact 37 (f := fGlo "joined"))).2⟩
  g_is_count := ⟨He.glo_ok X G (He.ba (c.fact 38 (f := fGlo "is_count"))).1, (He.ba (c.fact 38 (f := fGlo "is_count"))).2⟩
  g_BadNumber := ⟨He.glo_ok X G (He.ba (c.fact 39 (f := fGlo "BadNumber"))).1, (He.ba (c.fact 39 (f := fGlo "BadNumber"))).2⟩
  g_check_lanes := ⟨He.glo_ok X G (He.ba (c.fact 40 (f := fGlo "check_lanes"))).1, (He.ba (c.fact 40 (f := fGlo "check_lanes"))).2⟩
  g_word_pattern := ⟨He.glo_ok X G (He.ba (c.fact 41 (f := fGlo "word_pattern"))).1, (He.ba (c.fact 41 (f := fGlo "word_pattern"))).2⟩
  g_law_take := ⟨He.glo_ok X G (He.ba (c.fact 42 (f := fGlo "_law_take"))).1, (He.ba (c.fact 42 (f := fGlo "_law_take"))).2⟩
  g_law_tree := ⟨He.glo_ok X G (He.ba (c.fact 43 (f := fGlo "_law_tree"))).1, (He.ba (c.fact 43 (f := fGlo "_law_tree"))).2⟩
  g_none_of := ⟨He.glo_ok X G (He.ba (c.fact 44 (f := fGlo "none_of"))).1, (He.ba (c.fact 44 (f := fGlo "none_of"))).2⟩
  g_any_of := ⟨He.glo_ok X G (He.ba (c.fact 45 (f := fGlo "any_of"))).1, (He.ba (c.fact 45 (f := fGlo "any_of"))).2⟩
  g_law_atom := ⟨He.glo_ok X G (He.ba (c.fact 46 (f := fGlo "_law_atom"))).1, (He.ba (c.fact 46 (f := fGlo "_law_atom"))).2⟩
  g_law_pattern := ⟨He.glo_ok X G (He.ba (c.fact 47 (f := fGlo "_law_pattern"))).1, (He.ba (c.fact 47 (f := fGlo "_law_pattern"))).2⟩
  g_repeated := ⟨He.glo_ok X G (He.ba (c.fact 48 (f := fGlo "repeated"))).1, (He.ba (c.fact 48 (f := fGlo "repeated"))).2⟩
  g_optional := ⟨He.glo_ok X G (He.ba (c.fact 49 (f := fGlo "optional"))).1, (He.ba (c.fact 49 (f := fGlo "optional"))).2⟩
  bo_Pattern_BitOr := bo_ok (c.fact 50 (f := fBo "Pattern" .BitOr))
  bo_Pattern_Add := bo_ok (c.fact 51 (f := fBo "Pattern" .Add))
  n_enumerate := He.free_ok X G (c.fact 52 (f := fFree "enumerate"))
  g_law_takes := ⟨He.glo_ok X G (He.ba (c.fact 53 (f := fGlo "_law_takes"))).1, (He.ba (c.fact 53 (f := fGlo "_law_takes"))).2⟩
  g_law_ends_of := ⟨He.glo_ok X G (He.ba (c.fact 54 (f := fGlo "_law_ends_of"))).1, (He.ba (c.fact 54 (f := fGlo "_law_ends_of"))).2⟩
  g_law_distinct := ⟨He.glo_ok X G (He.ba (c.fact 55 (f := fGlo "_law_distinct"))).1, (He.ba (c.fact 55 (f := fGlo "_law_distinct"))).2⟩
  sm_Pattern_bool := sm_ok (c.fact 56 (f := fSm "Pattern" "__bool__"))
  bo_Pattern_Mult := bo_ok (c.fact 57 (f := fBo "Pattern" .Mult))
  xc_BadNumber := xcB_ok (c.fact 58 (f := fXc "BadNumber"))
  xn_BadNumber_value := He.noat_ok (c.fact 59 (f := fNoat "BadNumber" "value"))
  sm_Pattern_neg := sm_ok (c.fact 60 (f := fSm "Pattern" "__neg__"))
  sm_Pattern_contains := sm_ok (c.fact 61 (f := fSm "Pattern" "__contains__"))
  g_law_is_word := ⟨He.glo_ok X G (He.ba (c.fact 62 (f := fGlo "_law_is_word"))).1, (He.ba (c.fact 62 (f := fGlo "_law_is_word"))).2⟩
  cl_Pattern := He.cls_ok (c.fact 63 (f := fCls "Pattern"))
  pr_Pattern_names := prop_ok (c.fact 64 (f := fProp "Pattern" "names"))
  g_law_pool := ⟨He.glo_ok X G (He.ba (c.fact 65 (f := fGlo "_law_pool"))).1, (He.ba (c.fact 65 (f := fGlo "_law_pool"))).2⟩
  g_law_cell := ⟨He.glo_ok X G (He.ba (c.fact 66 (f := fGlo "_law_cell"))).1, (He.ba (c.fact 66 (f := fGlo "_law_cell"))).2⟩
  g_law_names := ⟨He.glo_ok X G (He.ba (c.fact 67 (f := fGlo "_law_names"))).1, (He.ba (c.fact 67 (f := fGlo "_law_names"))).2⟩
  g_law_many_times := ⟨He.glo_ok X G (He.ba (c.fact 68 (f := fGlo "_law_many_times"))).1, (He.ba (c.fact 68 (f := fGlo "_law_many_times"))).2⟩
  g_law_all_words := ⟨He.glo_ok X G (He.ba (c.fact 69 (f := fGlo "_law_all_words"))).1, (He.ba (c.fact 69 (f := fGlo "_law_all_words"))).2⟩
  g_law_turned_right := ⟨He.glo_ok X G (He.ba (c.fact 70 (f := fGlo "_law_turned_right"))).1, (He.ba (c.fact 70 (f := fGlo "_law_turned_right"))).2⟩
  g_law_refused := ⟨He.glo_ok X G (He.ba (c.fact 71 (f := fGlo "_law_refused"))).1, (He.ba (c.fact 71 (f := fGlo "_law_refused"))).2⟩
  g_walk_of := ⟨He.glo_ok X G (He.ba (c.fact 72 (f := fGlo "walk_of"))).1, (He.ba (c.fact 72 (f := fGlo "walk_of"))).2⟩
  xc_BadName := xcB_ok (c.fact 73 (f := fXc "BadName"))
  xi_BadName := xi_ok (c.fact 74 (f := fXi "BadName"))
  xn_BadName_name := He.noat_ok (c.fact 75 (f := fNoat "BadName" "name"))
  xi_BadNumber := xi_ok (c.fact 76 (f := fXi "BadNumber"))
  g_law := ⟨He.glo_ok X G (He.ba (c.fact 77 (f := fGlo "law"))).1, (He.ba (c.fact 77 (f := fGlo "law"))).2⟩
  kt_NoneType_str := kit_ok (c.fact 78 (f := fKit "NoneType" "str" false))
  kt_bool_str := kit_ok (c.fact 79 (f := fKit "bool" "str" false))
  kt_int_str := kit_ok (c.fact 80 (f := fKit "int" "str" false))
  kt_list_str := kit_ok (c.fact 81 (f := fKit "list" "str" false))
  kt_tuple_str := kit_ok (c.fact 82 (f := fKit "tuple" "str" false))
  kt_str_str := kit_ok (c.fact 83 (f := fKit "str" "str" true))
  kt_NoneType_int := kit_ok (c.fact 84 (f := fKit "NoneType" "int" false))
  kt_str_int := kit_ok (c.fact 85 (f := fKit "str" "int" false))
  kt_list_int := kit_ok (c.fact 86 (f := fKit "list" "int" false))
  kt_tuple_int := kit_ok (c.fact 87 (f := fKit "tuple" "int" false))
  kt_int_int := kit_ok (c.fact 88 (f := fKit "int" "int" true))
  kt_int_bool := kit_ok (c.fact 89 (f := fKit "int" "bool" false))
  kt_bool_int := kit_ok (c.fact 90 (f := fKit "bool" "int" true))
  kt_bool_bool := kit_ok (c.fact 91 (f := fKit "bool" "bool" true))
  kt_NoneType_tuple := kit_ok (c.fact 92 (f := fKit "NoneType" "tuple" false))
  kt_NoneType_list := kit_ok (c.fact 93 (f := fKit "NoneType" "list" false))
  kt_str_tuple := kit_ok (c.fact 94 (f := fKit "str" "tuple" false))
  kt_str_list := kit_ok (c.fact 95 (f := fKit "str" "list" false))
  kt_int_tuple := kit_ok (c.fact 96 (f := fKit "int" "tuple" false))
  kt_int_list := kit_ok (c.fact 97 (f := fKit "int" "list" false))
  kt_dict_tuple := kit_ok (c.fact 98 (f := fKit "dict" "tuple" false))
  kt_dict_list := kit_ok (c.fact 99 (f := fKit "dict" "list" false))
  kt_tuple_tuple := kit_ok (c.fact 100 (f := fKit "tuple" "tuple" true))
  kt_tuple_list := kit_ok (c.fact 101 (f := fKit "tuple" "list" false))
  kt_list_tuple := kit_ok (c.fact 102 (f := fKit "list" "tuple" false))
  kt_list_list := kit_ok (c.fact 103 (f := fKit "list" "list" true))
  na_Machine_atoms := He.noat_ok (c.fact 104 (f := fNoat "Machine" "atoms"))
  na_Machine_firsts := He.noat_ok (c.fact 105 (f := fNoat "Machine" "firsts"))
  na_Machine_lasts := He.noat_ok (c.fact 106 (f := fNoat "Machine" "lasts"))
  na_Machine_pairs := He.noat_ok (c.fact 107 (f := fNoat "Machine" "pairs"))
  na_Machine_is_optional := He.noat_ok (c.fact 108 (f := fNoat "Machine" "is_optional"))
  np_0 := noP_ok (c.fact 109 (f := fNoP))
  na_Pattern_tree := He.noat_ok (c.fact 110 (f := fNoat "Pattern" "tree"))
  ci_Pattern := clsI_ok (c.fact 111 (f := fClsI "Pattern"))
  ko_Pattern_Pattern := kitO_ok (c.fact 112 (f := fKitO "Pattern" "Pattern" true))
  bt_Pattern_Mult_NoneType := boT_ok (c.fact 113 (f := fBoT "Pattern" .Mult "NoneType"))
  bt_Pattern_Mult_bool := boT_ok (c.fact 114 (f := fBoT "Pattern" .Mult "bool"))
  bt_Pattern_Mult_int := boT_ok (c.fact 115 (f := fBoT "Pattern" .Mult "int"))
  bt_Pattern_Mult_list := boT_ok (c.fact 116 (f := fBoT "Pattern" .Mult "list"))
  bt_Pattern_Mult_tuple := boT_ok (c.fact 117 (f := fBoT "Pattern" .Mult "tuple"))
  bt_Pattern_Mult_str := boT_ok (c.fact 118 (f := fBoT "Pattern" .Mult "str"))
  ex_BadNumber_BadNumber := He.exm_ok (c.fact 119 (f := fExm "BadNumber" "BadNumber" true))
  kt_NoneType_bool := kit_ok (c.fact 120 (f := fKit "NoneType" "bool" false))
  kt_str_bool := kit_ok (c.fact 121 (f := fKit "str" "bool" false))
  kt_tuple_bool := kit_ok (c.fact 122 (f := fKit "tuple" "bool" false))
  d_is_name := c.def_ 0
  d_is_whole := c.def_ 1
  d_is_count := c.def_ 2
  d_are_names := c.def_ 3
  d_in_order := c.def_ 4
  d_check_lanes := c.def_ 5
  d_crossed := c.def_ 6
  d_read_tree := c.def_ 7
  d_Machine___init := c.def_ 8
  d_made_machine := c.def_ 9
  d_Machine_takes := c.def_ 10
  d_Machine_is_behind := c.def_ 11
  d_Machine_after := c.def_ 12
  d_Machine_started := c.def_ 13
  d_Machine_is_done := c.def_ 14
  d_accepts := c.def_ 15
  d_joined := c.def_ 16
  d_opposite := c.def_ 17
  d_tree_names := c.def_ 18
  d_Pattern___init := c.def_ 19
  d_Pattern_names := c.def_ 20
  d_Pattern___contains := c.def_ 21
  d_Pattern___bool := c.def_ 22
  d_Pattern___add := c.def_ 23
  d_Pattern___or := c.def_ 24
  d_Pattern___mul := c.def_ 25
  d_Pattern___neg := c.def_ 26
  d_any_of := c.def_ 27
  d_none_of := c.def_ 28
  d_word_pattern := c.def_ 29
  d_walk_of := c.def_ 30
  d_repeated := c.def_ 31
  d_optional := c.def_ 32
  d_law_cell := c.def_ 33
  d_law_pool := c.def_ 34
  d_law_take := c.def_ 35
  d_law_names := c.def_ 36
  d_law_tree := c.def_ 37
  d_law_atom := c.def_ 38
  d_law_pattern := c.def_ 39
  d_law_takes := c.def_ 40
  d_law_distinct := c.def_ 41
  d_law_ends_of := c.def_ 42
  d_law_is_word := c.def_ 43
  d_law_all_words := c.def_ 44
  d_law_many_times := c.def_ 45
  d_law_refused := c.def_ 46
  d_law_turned_right := c.def_ 47
  d_law := c.def_ 48
  d_BadName___init := c.def_ 49
  d_BadNumber___init := c.def_ 50
section
variable {P : Program} {w : World} {K : PySem.W.Frag} {mg : Str → Option Value} {base : Heap}
theorem z_BadName (T : Tx K mg) : Xn P w K mg base (He.ga K "BadName") "name" := by
  obtain ⟨fd, F⟩ := T.d_BadName___init
  exact ⟨T.xc_BadName, T.xn_BadName_name, _, fd, "name", T.xi_BadName.1, T.xi_BadName.2, init1_ok F sc_BadName___init (fun cdv A outer s H E => pss_one (ps_ost (pv 0) (pv 1))), F.bindsN (fun _ _ _ _ _ _ us hl => match us, hl with | [_, _], _ => rfl)⟩
theorem z_BadNumber (T : Tx K mg) : Xn P w K mg base (He.ga K "BadNumber") "value" := by
  obtain ⟨fd, F⟩ := T.d_BadNumber___init
  exact ⟨T.xc_BadNumber, T.xn_BadNumber_value, _, fd, "value", T.xi_BadNumber.1, T.xi_BadNumber.2, init1_ok F sc_BadNumber___init (fun cdv A outer s H E => pss_one (ps_ost (pv 0) (pv 1))), F.bindsN (fun _ _ _ _ _ _ us hl => match us, hl with | [_, _], _ => rfl)⟩
theorem all_ok {fd : FuncData} (T : Tx K mg) (F : FunD K "law" "law" (defArgs s_law) (defBody s_law) (defScope s_law) [] [] (He.ga K "law") fd) : FnOk P w K mg base (L2.CX P w) 31 (He.ga K "law") fd ["_law_script"] (spC K (ct_law K)) := by
  have Z_BadName : Xn P w K mg base (He.ga K "BadName") "name" := z_BadName T
  have Z_BadNumber : Xn P w K mg base (He.ga K "BadNumber") "value" := z_BadNumber T
  have F_is_name : Fn P w K mg base 4 (He.ga K "is_name") ["word"] (ct_is_name K) := ok_is_name T
  have F_is_whole : Fn P w K mg base 4 (He.ga K "is_whole") ["value"] (ct_is_whole K) := ok_is_whole T
  have F_is_count : Fn P w K mg base 6 (He.ga K "is_count") ["value"] (ct_is_count K) := ok_is_count T F_is_whole
  have F_are_names : Fn P w K mg base 6 (He.ga K "are_names") ["things"] (ct_are_names K) := ok_are_names T F_is_name
  have F_in_order : Fn P w K mg base 4 (He.ga K "in_order") ["names"] (ct_in_order K) := ok_in_order T
  have F_check_lanes : Fn P w K mg base 6 (He.ga K "check_lanes") ["lanes"] (ct_check_lanes K) := ok_check_lanes T F_is_name Z_BadName
  have F_crossed : Fn P w K mg base 4 (He.ga K "crossed") ["one", "two"] (ct_crossed K) := ok_crossed T
  have F_read_tree : Fn P w K mg base 22 (He.ga K "read_tree") ["tree", "start"] (ct_read_tree 8 K) := ok_read_tree T F_crossed 8
  have F_Machine___init : Fn P w K mg base 4 (He.ma K (He.ga K "Machine") "__init__") ["self", "atoms", "firsts", "lasts", "pairs", "is_optional"] (ct_Machine___init K) := ok_Machine___init T
  have F_made_machine : Fn P w K mg base 24 (He.ga K "made_machine") ["tree"] (ct_made_machine K) := ok_made_machine T F_read_tree F_Machine___init
  have F_Machine_takes : Fn P w K mg base 4 (He.ma K (He.ga K "Machine") "takes") ["self", "atom", "lane"] (ct_Machine_takes K) := ok_Machine_takes T
  have F_Machine_is_behind : Fn P w K mg base 4 (He.ma K (He.ga K "Machine") "is_behind") ["self", "places", "atom"] (ct_Machine_is_behind K) := ok_Machine_is_behind T
  have F_Machine_after : Fn P w K mg base 6 (He.ma K (He.ga K "Machine") "after") ["self", "places", "lane"] (ct_Machine_after K) := ok_Machine_after T F_Machine_takes F_Machine_is_behind
  have F_Machine_started : Fn P w K mg base 6 (He.ma K (He.ga K "Machine") "started") ["self", "lane"] (ct_Machine_started K) := ok_Machine_started T F_Machine_takes
  have F_Machine_is_done : Fn P w K mg base 4 (He.ma K (He.ga K "Machine") "is_done") ["self", "places"] (ct_Machine_is_done K) := ok_Machine_is_done T
  have F_accepts : Fn P w K mg base 8 (He.ga K "accepts") ["machine", "lanes"] (ct_accepts K) := ok_accepts T F_Machine_after F_Machine_started F_Machine_is_done
  have F_joined : Fn P w K mg base 4 (He.ga K "joined") ["kind", "one", "two"] (ct_joined K) := ok_joined T
  have F_opposite : Fn P w K mg base 20 (He.ga K "opposite") ["tree"] (ct_opposite 8 K) := ok_opposite T 8
  have F_tree_names : Fn P w K mg base 20 (He.ga K "tree_names") ["tree"] (ct_tree_names 8 K) := ok_tree_names T 8
  have F_Pattern___init : Fn P w K mg base 4 (He.ma K (He.ga K "Pattern") "__init__") ["self", "tree"] (ct_Pattern___init K) := ok_Pattern___init T
  have F_Pattern_names : Fn P w K mg base 22 (pga K (He.ga K "Pattern") "names") ["self"] (ct_Pattern_names K) := ok_Pattern_names T F_in_order F_tree_names
  have F_Pattern___contains : Fn P w K mg base 26 (He.ma K (He.ga K "Pattern") "__contains__") ["self", "lanes"] (ct_Pattern___contains K) := ok_Pattern___contains T F_are_names F_made_machine F_accepts
  have F_Pattern___bool : Fn P w K mg base 26 (He.ma K (He.ga K "Pattern") "__bool__") ["self"] (ct_Pattern___bool K) := ok_Pattern___bool T F_made_machine
  have F_Pattern___add : Fn P w K mg base 6 (He.ma K (He.ga K "Pattern") "__add__") ["self", "other"] (ct_Pattern___add K) := ok_Pattern___add T F_joined F_Pattern___init
  have F_Pattern___or : Fn P w K mg base 6 (He.ma K (He.ga K "Pattern") "__or__") ["self", "other"] (ct_Pattern___or K) := ok_Pattern___or T F_joined F_Pattern___init
  have F_Pattern___mul : Fn P w K mg base 8 (He.ma K (He.ga K "Pattern") "__mul__") ["self", "number"] (ct_Pattern___mul K) := ok_Pattern___mul T F_is_count F_joined F_Pattern___init Z_BadNumber
  have F_Pattern___neg : Fn P w K mg base 22 (He.ma K (He.ga K "Pattern") "__neg__") ["self"] (ct_Pattern___neg K) := ok_Pattern___neg T F_opposite F_Pattern___init
  have F_any_of : FnV P w K mg base 8 (He.ga K "any_of") (ct_any_of K) := ok_any_of T F_check_lanes F_Pattern___init
  have F_none_of : FnV P w K mg base 8 (He.ga K "none_of") (ct_none_of K) := ok_none_of T F_check_lanes F_Pattern___init
  have F_word_pattern : Fn P w K mg base 6 (He.ga K "word_pattern") ["names"] (ct_word_pattern K) := ok_word_pattern T F_Pattern___init
  have F_walk_of : FnV P w K mg base 8 (He.ga K "walk_of") (ct_walk_of K) := ok_walk_of T F_check_lanes F_word_pattern
  have F_repeated : Fn P w K mg base 6 (He.ga K "repeated") ["pattern"] (ct_repeated K) := ok_repeated T F_Pattern___init
  have F_optional : Fn P w K mg base 6 (He.ga K "optional") ["pattern"] (ct_optional K) := ok_optional T F_Pattern___init
  have F_law_cell : Fn P w K mg base 4 (He.ga K "_law_cell") ["_law_script", "_law_k"] (ct_law_cell K) := ok_law_cell T
  have F_law_pool : Fn P w K mg base 4 (He.ga K "_law_pool") ["_law_cell_here"] (ct_law_pool K) := ok_law_pool T
  have F_law_take : Fn P w K mg base 4 (He.ga K "_law_take") ["_law_pool_here", "_law_many"] (ct_law_take K) := ok_law_take T
  have F_law_names : Fn P w K mg base 6 (He.ga K "_law_names") ["_law_pool_here", "_law_many"] (ct_law_names K) := ok_law_names T F_law_take
  have F_law_tree : Fn P w K mg base 14 (He.ga K "_law_tree") ["_law_pool_here", "_law_lanes", "_law_depth"] (ct_law_tree 4 K) := ok_law_tree T F_law_take 4
  have F_law_atom : Fn P w K mg base 10 (He.ga K "_law_atom") ["_law_kind", "_law_names_here"] (ct_law_atom K) := ok_law_atom T F_any_of F_none_of
  have F_law_pattern : Fn P w K mg base 22 (He.ga K "_law_pattern") ["_law_tree_here"] (ct_law_pattern 5 K) := ok_law_pattern T F_Pattern___add F_Pattern___or F_repeated F_optional F_law_atom 5
  have F_law_takes : Fn P w K mg base 4 (He.ga K "_law_takes") ["_law_atom_here", "_law_lane"] (ct_law_takes K) := ok_law_takes T
  have F_law_distinct : Fn P w K mg base 4 (He.ga K "_law_distinct") ["_law_things"] (ct_law_distinct K) := ok_law_distinct T
  have F_law_ends_of : Fn P w K mg base 22 (He.ga K "_law_ends_of") ["_law_tree_here", "_law_lanes", "_law_start"] (ct_law_ends_of 8 K) := ok_law_ends_of T F_law_takes F_law_distinct 8
  have F_law_is_word : Fn P w K mg base 24 (He.ga K "_law_is_word") ["_law_tree_here", "_law_lanes"] (ct_law_is_word K) := ok_law_is_word T F_law_ends_of
  have F_law_all_words : Fn P w K mg base 4 (He.ga K "_law_all_words") ["_law_names_here", "_law_most"] (ct_law_all_words K) := ok_law_all_words T
  have F_law_many_times : Fn P w K mg base 4 (He.ga K "_law_many_times") ["_law_tree_here", "_law_number"] (ct_law_many_times K) := ok_law_many_times T
  have F_law_refused : Fn P w K mg base 29 (He.ga K "_law_refused") ["_law_pattern_here", "_law_number"] (ct_law_refused K) := ok_law_refused T F_Pattern___bool F_Pattern___mul
  have F_law_turned_right : Fn P w K mg base 28 (He.ga K "_law_turned_right") ["_law_pattern_here", "_law_tree_here", "_law_words"] (ct_law_turned_right K) := ok_law_turned_right T F_Pattern_names F_Pattern___contains F_Pattern___neg F_law_is_word
  exact ok_law T F_Pattern___contains F_Pattern___add F_Pattern___or F_Pattern___mul F_any_of F_walk_of F_repeated F_optional F_law_cell F_law_pool F_law_take F_law_names F_law_tree F_law_pattern F_law_is_word F_law_all_words F_law_many_times F_law_refused F_law_turned_right F
end
def names0 : List Str := ["_wall", "ShowError", "BadName", "EmptyWalk", "BadText", "BadNumber", "Machine", "made_machine", "read_tree", "crossed", "accepts", "LETTERS", "DIGITS", "LONGEST", "is_name", "is_whole", "is_count", "are_names", "ENDS", "sign_at", "read_pattern", "behind_row", "read_row", "read_item", "read_name", "read_names", "read_group", "expect", "in_order", "check_lanes"]
def names1 : List Str := ["joined", "opposite", "tree_names", "text_of", "atom_text", "Pattern", "any_of", "none_of", "walk_of", "word_pattern", "repeated", "optional", "_law_cell", "_law_pool", "_law_take", "_law_names", "_law_tree", "_law_atom", "_law_pattern", "_law_ends_of", "_law_takes", "_law_distinct", "_law_is_word", "_law_all_words", "_law_many_times", "_law_refused", "_law_turned_right"]
abbrev names : List Str := names0 ++ names1
abbrev R : PySem.W.OpenRow := PySem.W.OpenLaw.row PySem.Challenge.rw_alsoshown_k11_patterns_put_together
abbrev qv : Program := view R.prog [65]
def rts0 : List Str := ["is_name", "is_whole", "is_count", "are_names", "in_order", "check_lanes", "crossed", "read_tree", "Machine", "made_machine", "accepts", "joined", "opposite", "tree_names", "Pattern", "any_of", "none_of", "word_pattern", "walk_of", "repeated", "optional", "_law_cell", "_law_pool", "_law_take", "_law_names", "_law_tree", "_law_atom", "_law_pattern", "_law_takes", "_law_distinct"]
def rts1 : List Str := ["_law_ends_of", "_law_is_word", "_law_all_words", "_law_many_times", "_law_refused", "_law_turned_right", "law", "BadName", "BadNumber", "LETTERS", "LONGEST", "DIGITS", "EmptyWalk"]
abbrev rts : List Str := rts0 ++ rts1
abbrev hk : PySem.W.Hook := hookZ 5 rts exs dfs
def ob (s : PySem.W.SharedT) : AlY := obsZG 5 rts exs dfs (HandSHeadRun.getT s)
theorem ob_eq (s : PySem.W.SharedT) : ob s = hk.obs s.abs := obsZG_eq (HandSHeadRun.getT_eq s)
theorem run0 (w : World) : HandSHeadRun.RunEq R qv hk ob 14000 names (w.withFollow "special-get-raises" false) := by
  intro os
  kernel_rfl
theorem run1 (w : World) : HandSHeadRun.RunEq R qv hk ob 14000 names (w.withFollow "special-get-raises" true) := by
  intro os
  kernel_rfl
theorem run (w : World) : HandSHeadRun.RunEq R qv hk ob 14000 names w := PySem.W.byRow2 "special-get-raises" (P := fun w => HandSHeadRun.RunEq R qv hk ob 14000 names w) run0 run1 w
end K11
open PySem PySem.W PySem.Calls PyProof.Rows
theorem PySem.Challenge.cw_alsoshown_k11_patterns_put_together_holds : PySem.Challenge.rw_alsoshown_k11_patterns_put_together.Holds := by
  w_on; o_law
  refine HandSHeadRun.head_any (r := K11.R) (q := K11.qv) (H := K11.hk) (ob := K11.ob) (M := 14000) (loose := K11.names) (d := HandSHeadRun.topDef K11.R.prog 65) (kwd := []) K11.ob_eq
    (by kernel_rfl) (fun s => by kernel_rfl) K11.run (by kernel_rfl) (by kernel_rfl) (by kernel_rfl) (by rfl) (by first | assumption | decide +kernel) (by decide +kernel) ⟨rfl, rfl, rfl, rfl, rfl, by decide +kernel⟩ ?hw ?hc
  case hw => w_witness2
  case hc =>
    refine DL.walk_D (l := PySem.Challenge.rw_alsoshown_k11_patterns_put_together) (n := 63) (k := 31) (x := "_law_script") rfl (by decide) (by kernel_rfl) ⟨rfl, by decide, by decide⟩ ?F
    intro w mg fa h Y G hmg0
    obtain ⟨K, KX, c⟩ := Y
    have hmg : mg ("law" : PySem.Str) = some (.ref fa) := by
      have e : (HandSHeadRun.topDef K11.R.prog 65).name = ("law" : PySem.Str) := by kernel_rfl
      rw [← e]
      exact hmg0
    have T := K11.tx_of KX G c
    obtain ⟨fd, F⟩ := T.d_law
    have e := hmg.symm.trans T.g_law.1
    cases e
    exact ⟨K, K11.ct_law K, fd, KX, fun z ns hs => ⟨z, rfl, ns, hs, rfl, rfl⟩, fun s v => L2.FunD.bindsA (ps := ["_law_script"]) F (fun _ _ _ _ _ _ us hl => match us, hl with | [_], _ => rfl) s [v] rfl, fun base => K11.all_ok T F⟩

