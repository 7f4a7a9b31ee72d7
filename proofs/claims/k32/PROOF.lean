import PyProof.Rows.All
import PySem.Challenge.RW_allbrought_k32_whole_rows_of_letters_jud
import Wide.All
import OpenK.AllK
import Wide.FinOn
import HandS.ForMost
import HandS.ForExc
import HandS.CallSlots
import HandS.ExcInit
import HandS.ExcField
import HandS.TryMany
import HandS.Small
import HandS.TupMul
import HandS.List
import HandS.Wide
import HandS.TupAny
import HandS.IsInst
import HandS.Style
import HandS.WordsExc
import HandS.Zip
import KE.GoesEnum
import HandS.Deep
import HandS.SortInts
import HandS.DictComp
import HandS.OwnEq
import KE.GoesRaise
import HandS.Strs
import HandS.Conv
import PyProof.LongRange
import KE.DataMinMax
import PyProof.P3In
set_option Elab.async false
set_option linter.all false
set_option maxRecDepth 100000
set_option maxHeartbeats 0
/-! Dn: a pure layer over HandS: what is never changed (numbers, texts, tuples, frozen lists and instances) is a plain datum, what is changed stands in a store; a statement's meaning is a predicate transformer over data and store. -/
namespace Dn
open PySem PySem.Spec PyProof.Rows L2

abbrev Frg := PySem.W.Frag
/-- data -/
inductive Dt where
  | non | bl (b : Bool) | int (i : Int) | str (x : Str) | ty (n : String)
  | tup (ws : List Dt) | lst (ws : List Dt) | kl (ws : List Dt)
  | ins (C : Addr) (ns : List Str) (ws : List Dt)
  | dK (ks : List Key) (ws : List Dt) | dT (ks : List (List Key)) (ws : List Dt)
  | exn (a dd : Addr) (ns : List Str) (ws : List Dt)
  | ref (a : Addr)
  | kt (ws : List Dt)
/-- what is changed -/
inductive Ob where
  | lst (ws : List Dt)
  | ins (C : Addr) (ns : List Str) (ws : List Dt)
  | dK (ks : List Key) (ws : List Dt) | dT (ks : List (List Key)) (ws : List Dt)
abbrev Store := Addr → Option Ob
abbrev Hid := Addr → Prop
abbrev Env := List (Option Dt)
def sup (S : Store) (a : Addr) (o : Ob) : Store := fun b => if b = a then some o else S b
theorem sup_same {S : Store} {a : Addr} {o : Ob} : sup S a o a = some o := by unfold sup; rw [if_pos rfl]
theorem sup_ne {S : Store} {a b : Addr} {o : Ob} (h : b ≠ a) : sup S a o b = S b := by unfold sup; rw [if_neg h]
theorem sup_sup {S : Store} {a : Addr} {o u : Ob} : sup (sup S a o) a u = sup S a u := by
  funext b; unfold sup; split <;> rfl

/-- there, and never changed -/
def Fz (P : Hid) (S : Store) (H : Hp) (a : Addr) (o : HO) : Prop := H a = some o ∧ S a = none ∧ ¬ P a
/-- of the written part -/
def KL (K : Frg) (a : Addr) (xs : List V) : Prop := SqL K (fun _ => none) a xs
def KT (K : Frg) (a : Addr) (xs : List V) : Prop := SqT K (fun _ => none) a xs ∧ ∃ o, K.lookup a = some o ∧ o.cls = .type "tuple" ∧ o.dict = none
theorem KL.sq {K : Frg} {H : Hp} {a : Addr} {xs : List V} (h : KL K a xs) : SqL K H a xs := by
  rcases h with (h | ⟨o, h⟩) | h
  · cases h
  · cases h
  · exact .inr h
theorem KT.sq {K : Frg} {H : Hp} {a : Addr} {xs : List V} (h : KT K a xs) : SqT K H a xs := by
  rcases h.1 with (h | ⟨o, h⟩) | h
  · cases h
  · cases h
  · exact .inr h

mutual
/-- the value v stands for the datum -/
def Rp (K : Frg) (P : Hid) (S : Store) (H : Hp) : Dt → V → Prop
  | .non, v => v = .non
  | .bl b, v => v = .bl b
  | .int i, v => v = .int i
  | .str x, v => v = .str x
  | .ty n, v => v = .ty n
  | .ref a, v => v = .ref a
  | .tup ws, v => ∃ a xs, v = .ref a ∧ Fz P S H a (.tup xs) ∧ RpL K P S H ws xs
  | .kt ws, v => ∃ a xs, v = .ref a ∧ KT K a xs ∧ RpL K P S H ws xs
  | .lst ws, v => ∃ a xs, v = .ref a ∧ Fz P S H a (.lst xs) ∧ RpL K P S H ws xs
  | .kl ws, v => ∃ a xs, v = .ref a ∧ ((∃ o, Fz P S H a (.frz o (.lst xs))) ∨ KL K a xs) ∧ RpL K P S H ws xs
  | .ins C ns ws, v => ∃ a dx xs, v = .ref a ∧ Fz P S H a (.ins C dx (ns.zip xs)) ∧ ns.length = ws.length ∧ RpL K P S H ws xs
  | .dK ks ws, v => ∃ a xs, v = .ref a ∧ Fz P S H a (.dK (ks.zip xs)) ∧ ks.length = ws.length ∧ RpL K P S H ws xs
  | .dT ks ws, v => ∃ a xs, v = .ref a ∧ Fz P S H a (.dT (ks.zip xs)) ∧ ks.length = ws.length ∧ RpL K P S H ws xs
  | .exn a dd ns ws, v => ∃ xs, v = .ref a ∧ Fz P S H dd (.xd (ns.zip xs)) ∧ ns.length = ws.length ∧ RpL K P S H ws xs
def RpL (K : Frg) (P : Hid) (S : Store) (H : Hp) : List Dt → List V → Prop
  | [], xs => xs = []
  | w :: ws, xs => ∃ v r, xs = v :: r ∧ Rp K P S H w v ∧ RpL K P S H ws r
end
section
variable {K : Frg} {P P' : Hid} {S S' S2 : Store} {H H' H2 : Hp}
mutual
theorem Rp.conv (c : ∀ a o, H a = some o → S a = none → ¬ P a → H' a = some o ∧ S' a = none ∧ ¬ P' a) : ∀ (w : Dt) (v : V), Rp K P S H w v → Rp K P' S' H' w v
  | .non, v, h => by unfold Rp at h ⊢; exact h
  | .bl b, v, h => by unfold Rp at h ⊢; exact h
  | .int i, v, h => by unfold Rp at h ⊢; exact h
  | .str x, v, h => by unfold Rp at h ⊢; exact h
  | .ty n, v, h => by unfold Rp at h ⊢; exact h
  | .ref a, v, h => by unfold Rp at h ⊢; exact h
  | .tup ws, v, h => by
    unfold Rp at h ⊢
    obtain ⟨a, xs, e, f, r⟩ := h
    exact ⟨a, xs, e, c a _ f.1 f.2.1 f.2.2, RpL.conv c ws xs r⟩
  | .kt ws, v, h => by
    unfold Rp at h ⊢
    obtain ⟨a, xs, e, f, r⟩ := h
    exact ⟨a, xs, e, f, RpL.conv c ws xs r⟩
  | .lst ws, v, h => by
    unfold Rp at h ⊢
    obtain ⟨a, xs, e, f, r⟩ := h
    exact ⟨a, xs, e, c a _ f.1 f.2.1 f.2.2, RpL.conv c ws xs r⟩
  | .kl ws, v, h => by
    unfold Rp at h ⊢
    obtain ⟨a, xs, e, f, r⟩ := h
    exact ⟨a, xs, e, f.imp (fun ⟨o, f⟩ => ⟨o, c a _ f.1 f.2.1 f.2.2⟩) id, RpL.conv c ws xs r⟩
  | .ins C ns ws, v, h => by
    unfold Rp at h ⊢
    obtain ⟨a, dx, xs, e, f, z, r⟩ := h
    exact ⟨a, dx, xs, e, c a _ f.1 f.2.1 f.2.2, z, RpL.conv c ws xs r⟩
  | .dK ks ws, v, h => by
    unfold Rp at h ⊢
    obtain ⟨a, xs, e, f, z, r⟩ := h
    exact ⟨a, xs, e, c a _ f.1 f.2.1 f.2.2, z, RpL.conv c ws xs r⟩
  | .dT ks ws, v, h => by
    unfold Rp at h ⊢
    obtain ⟨a, xs, e, f, z, r⟩ := h
    exact ⟨a, xs, e, c a _ f.1 f.2.1 f.2.2, z, RpL.conv c ws xs r⟩
  | .exn a dd ns ws, v, h => by
    unfold Rp at h ⊢
    obtain ⟨xs, e, f, z, r⟩ := h
    exact ⟨xs, e, c dd _ f.1 f.2.1 f.2.2, z, RpL.conv c ws xs r⟩
theorem RpL.conv (c : ∀ a o, H a = some o → S a = none → ¬ P a → H' a = some o ∧ S' a = none ∧ ¬ P' a) : ∀ (ws : List Dt) (xs : List V), RpL K P S H ws xs → RpL K P' S' H' ws xs
  | [], xs, h => by unfold RpL at h ⊢; exact h
  | w :: ws, xs, h => by
    unfold RpL at h ⊢
    obtain ⟨v, r, e, h1, h2⟩ := h
    exact ⟨v, r, e, Rp.conv c w v h1, RpL.conv c ws r h2⟩
end
/-- what is not changed stays -/
def Evo (S : Store) (H : Hp) (S' : Store) (H' : Hp) : Prop := ∀ a o, S a = none → H a = some o → H' a = some o ∧ S' a = none
theorem Evo.refl : Evo S H S H := fun _ _ n h => ⟨h, n⟩
theorem Evo.trans (a : Evo S H S' H') (b : Evo S' H' S2 H2) : Evo S H S2 H2 := fun x o n h => b x o (a x o n h).2 (a x o n h).1
theorem Rp.mono (e : Evo S H S' H') {w : Dt} {v : V} (h : Rp K P S H w v) : Rp K P S' H' w v := Rp.conv (fun a o r n p => ⟨(e a o n r).1, (e a o n r).2, p⟩) w v h
theorem RpL.mono (e : Evo S H S' H') {ws : List Dt} {xs : List V} (h : RpL K P S H ws xs) : RpL K P S' H' ws xs := RpL.conv (fun a o r n p => ⟨(e a o n r).1, (e a o n r).2, p⟩) ws xs h
theorem RpL.length : ∀ {ws : List Dt} {xs : List V}, RpL K P S H ws xs → ws.length = xs.length
  | [], xs, h => by unfold RpL at h; subst h; rfl
  | w :: ws, xs, h => by
    unfold RpL at h
    obtain ⟨v, r, e, h1, h2⟩ := h
    subst e
    rw [List.length_cons, List.length_cons, RpL.length h2]
theorem RpL.nil : RpL K P S H [] [] := by unfold RpL; rfl
theorem RpL.cons {w : Dt} {v : V} {ws : List Dt} {xs : List V} (h : Rp K P S H w v) (t : RpL K P S H ws xs) : RpL K P S H (w :: ws) (v :: xs) := by
  unfold RpL; exact ⟨v, xs, rfl, h, t⟩
theorem RpL.get : ∀ {ws : List Dt} {xs : List V} {i : Nat} {w : Dt}, RpL K P S H ws xs → ws[i]? = some w → ∃ v, xs[i]? = some v ∧ Rp K P S H w v
  | [], _, _, _, _, e => by simp at e
  | u :: ws, xs, 0, w, h, e => by
    unfold RpL at h
    obtain ⟨v, r, rfl, h1, h2⟩ := h
    simp at e
    subst e
    exact ⟨v, rfl, h1⟩
  | u :: ws, xs, i + 1, w, h, e => by
    unfold RpL at h
    obtain ⟨v, r, rfl, h1, h2⟩ := h
    obtain ⟨y, q1, q2⟩ := RpL.get (i := i) (w := w) h2 (by simpa using e)
    exact ⟨y, by simpa using q1, q2⟩
theorem RpL.append : ∀ {ws zs : List Dt} {xs ys : List V}, RpL K P S H ws xs → RpL K P S H zs ys → RpL K P S H (ws ++ zs) (xs ++ ys)
  | [], zs, xs, ys, h, t => by unfold RpL at h; subst h; exact t
  | w :: ws, zs, xs, ys, h, t => by
    unfold RpL at h
    obtain ⟨v, r, rfl, h1, h2⟩ := h
    exact RpL.cons h1 (RpL.append h2 t)
theorem RpL.take : ∀ {ws : List Dt} {xs : List V} (n : Nat), RpL K P S H ws xs → RpL K P S H (ws.take n) (xs.take n)
  | _, _, 0, _ => by simp; exact RpL.nil
  | [], xs, n + 1, h => by unfold RpL at h; subst h; simp; exact RpL.nil
  | w :: ws, xs, n + 1, h => by
    unfold RpL at h
    obtain ⟨v, r, rfl, h1, h2⟩ := h
    exact RpL.cons h1 (RpL.take n h2)
theorem RpL.drop : ∀ {ws : List Dt} {xs : List V} (n : Nat), RpL K P S H ws xs → RpL K P S H (ws.drop n) (xs.drop n)
  | _, _, 0, h => h
  | [], xs, n + 1, h => by unfold RpL at h; subst h; simp; exact RpL.nil
  | w :: ws, xs, n + 1, h => by
    unfold RpL at h
    obtain ⟨v, r, rfl, h1, h2⟩ := h
    exact RpL.drop n h2
theorem RpL.set : ∀ {ws : List Dt} {xs : List V} (n : Nat) {w : Dt} {v : V}, RpL K P S H ws xs → Rp K P S H w v → RpL K P S H (ws.set n w) (xs.set n v)
  | [], xs, n, w, v, h, q => by unfold RpL at h; subst h; simp; exact RpL.nil
  | u :: ws, xs, 0, w, v, h, q => by
    unfold RpL at h
    obtain ⟨y, r, rfl, h1, h2⟩ := h
    exact RpL.cons q h2
  | u :: ws, xs, n + 1, w, v, h, q => by
    unfold RpL at h
    obtain ⟨y, r, rfl, h1, h2⟩ := h
    exact RpL.cons h1 (RpL.set n h2 q)
/-- the world: what the store tells stands in the heap; what is hidden is there, and no one's -/
def RpOb (K : Frg) (P : Hid) (S : Store) (H : Hp) (a : Addr) : Ob → Prop
  | .lst ws => ∃ xs, H a = some (.lst xs) ∧ RpL K P S H ws xs
  | .ins C ns ws => ∃ dx xs, H a = some (.ins C dx (ns.zip xs)) ∧ ns.length = ws.length ∧ RpL K P S H ws xs
  | .dK ks ws => ∃ xs, H a = some (.dK (ks.zip xs)) ∧ ks.length = ws.length ∧ RpL K P S H ws xs
  | .dT ks ws => ∃ xs, H a = some (.dT (ks.zip xs)) ∧ ks.length = ws.length ∧ RpL K P S H ws xs
structure Wd (K : Frg) (P : Hid) (S : Store) (H : Hp) : Prop where
  sim : ∀ a o, S a = some o → RpOb K P S H a o
  hid : ∀ a, P a → S a = none ∧ ∃ o, H a = some o
theorem RpOb.there {a : Addr} {o : Ob} (h : RpOb K P S H a o) : ∃ u, H a = some u := by
  cases o with
  | lst ws => obtain ⟨xs, e, _⟩ := h; exact ⟨_, e⟩
  | ins C ns ws => obtain ⟨dx, xs, e, _⟩ := h; exact ⟨_, e⟩
  | dK ks ws => obtain ⟨xs, e, _⟩ := h; exact ⟨_, e⟩
  | dT ks ws => obtain ⟨xs, e, _⟩ := h; exact ⟨_, e⟩
theorem Wd.free (W : Wd K P S H) {a : Addr} (h : H a = none) : S a = none ∧ ¬ P a := by
  refine ⟨?_, fun p => ?_⟩
  · cases e : S a with
    | none => rfl
    | some o =>
      obtain ⟨u, q⟩ := (W.sim a o e).there
      rw [h] at q; cases q
  · obtain ⟨_, u, q⟩ := W.hid a p
    rw [h] at q; cases q
/-- a new frozen object -/
theorem Evo.new {p : Addr} {o : HO} (h : H p = none) : Evo S H S (upd H p o) := fun a u n e => ⟨by rw [upd_ne (ne_of_none e h)]; exact e, n⟩
theorem RpOb.conv {a : Addr} {o : Ob} (c : ∀ a o, H a = some o → S a = none → ¬ P a → H' a = some o ∧ S' a = none ∧ ¬ P' a) (e : ∀ u, H a = some u → H' a = some u) (h : RpOb K P S H a o) : RpOb K P' S' H' a o := by
  cases o with
  | lst ws => obtain ⟨xs, q, r⟩ := h; exact ⟨xs, e _ q, r.conv c⟩
  | ins C ns ws => obtain ⟨dx, xs, q, z, r⟩ := h; exact ⟨dx, xs, e _ q, z, r.conv c⟩
  | dK ks ws => obtain ⟨xs, q, z, r⟩ := h; exact ⟨xs, e _ q, z, r.conv c⟩
  | dT ks ws => obtain ⟨xs, q, z, r⟩ := h; exact ⟨xs, e _ q, z, r.conv c⟩
theorem Wd.new (W : Wd K P S H) {p : Addr} {o : HO} (h : H p = none) : Wd K P S (upd H p o) := by
  have k : ∀ a u, H a = some u → upd H p o a = some u := fun a u e => by rw [upd_ne (ne_of_none e h)]; exact e
  refine ⟨fun a b e => (W.sim a b e).conv (fun x u r n q => ⟨k _ _ r, n, q⟩) (k a), fun a q => ⟨(W.hid a q).1, ?_⟩⟩
  · obtain ⟨u, z⟩ := (W.hid a q).2
    exact ⟨u, k _ _ z⟩
theorem Fz.new (W : Wd K P S H) {p : Addr} {o : HO} (h : H p = none) : Fz P S (upd H p o) p o := ⟨upd_same, (W.free h).1, (W.free h).2⟩
/-- a new object of the store -/
theorem Evo.alloc {p : Addr} {o : HO} {b : Ob} (h : H p = none) : Evo S H (sup S p b) (upd H p o) := fun a u n e => by
  have z : a ≠ p := ne_of_none e h
  rw [upd_ne z, sup_ne z]
  exact ⟨e, n⟩
/-- an object of the store is changed -/
theorem Evo.set {p : Addr} {o : HO} {b u : Ob} (h : S p = some u) : Evo S H (sup S p b) (upd H p o) := fun a u n e => by
  have z : a ≠ p := fun z => by rw [z, h] at n; cases n
  rw [upd_ne z, sup_ne z]
  exact ⟨e, n⟩
theorem Wd.put (W : Wd K P S H) {p : Addr} {o : HO} {b : Ob} (hp : ¬ P p) (hs : S p = none → H p = none) (hb : RpOb K P (sup S p b) (upd H p o) p b) : Wd K P (sup S p b) (upd H p o) := by
  have c : ∀ a u, H a = some u → S a = none → ¬ P a → upd H p o a = some u ∧ sup S p b a = none ∧ ¬ P a := fun a u r n q => by
    have z : a ≠ p := fun z => by
      subst z
      rw [hs n] at r
      cases r
    rw [sup_ne z, upd_ne z]
    exact ⟨r, n, q⟩
  refine ⟨fun a u e => ?_, fun a q => ?_⟩
  · by_cases z : a = p
    · subst z
      rw [sup_same] at e
      cases e
      exact hb
    · rw [sup_ne z] at e
      exact (W.sim a u e).conv c (fun y q => by rw [upd_ne z]; exact q)
  · have z : a ≠ p := fun z => hp (z ▸ q)
    obtain ⟨h1, u, h2⟩ := W.hid a q
    exact ⟨by rw [sup_ne z]; exact h1, u, by rw [upd_ne z]; exact h2⟩
theorem Wd.nohid (W : Wd K P S H) {a : Addr} {o : Ob} (h : S a = some o) : ¬ P a := fun q => by
  rw [(W.hid a q).1] at h; cases h
/-- knowledge is given up -/
def Sub (S' S : Store) : Prop := ∀ a o, S' a = some o → S a = some o
theorem Sub.none (h : Sub S' S) {a : Addr} (n : S a = none) : S' a = none := by
  cases e : S' a with
  | none => rfl
  | some o => rw [h a o e] at n; cases n
theorem Rp.sub (h : Sub S' S) {w : Dt} {v : V} (r : Rp K P S H w v) : Rp K P S' H w v := Rp.conv (fun a o r n p => ⟨r, h.none n, p⟩) w v r
theorem RpL.sub (h : Sub S' S) {w : List Dt} {v : List V} (r : RpL K P S H w v) : RpL K P S' H w v := RpL.conv (fun a o r n p => ⟨r, h.none n, p⟩) w v r
theorem Wd.sub (W : Wd K P S H) (h : Sub S' S) : Wd K P S' H :=
  ⟨fun a o e => (W.sim a o (h a o e)).conv (fun a o r n p => ⟨r, h.none n, p⟩) (fun _ e => e), fun a q => ⟨h.none (W.hid a q).1, (W.hid a q).2⟩⟩
theorem Evo.sub {S0 : Store} {H0 : Hp} (e : Evo S0 H0 S H) (h : Sub S' S) : Evo S0 H0 S' H := fun a o n q => ⟨(e a o n q).1, h.none (e a o n q).2⟩
def sdel (S : Store) (a : Addr) : Store := fun b => if b = a then none else S b
theorem sub_sdel {a : Addr} : Sub (sdel S a) S := fun b o e => by unfold sdel at e; split at e; cases e; exact e
theorem sub_sup {a : Addr} {o : Ob} (h : S a = none) : Sub S (sup S a o) := fun b u e => by
  have z : b ≠ a := fun z => by rw [z, h] at e; cases e
  rw [sup_ne z]; exact e
theorem Sub.refl : Sub S S := fun _ _ e => e
theorem Sub.trans (a : Sub S' S) (b : Sub S S2) : Sub S' S2 := fun x o e => b x o (a x o e)
/-- weaker words for the same -/
def Wk (w : Dt) (S : Store) (w' : Dt) (S' : Store) : Prop := Sub S' S ∧ ∀ K P H v, Wd K P S H → Rp K P S H w v → Rp K P S' H w' v
theorem Wk.sub {w : Dt} (h : Sub S' S) : Wk w S w S' := ⟨h, fun K P H v W r => r.sub h⟩
theorem Wk.refl {w : Dt} : Wk w S w S := Wk.sub Sub.refl
theorem Wk.trans {w w' w2 : Dt} (a : Wk w S w' S') (b : Wk w' S' w2 S2) : Wk w S w2 S2 := ⟨b.1.trans a.1, fun K P H v W r => b.2 K P H v (W.sub a.1) (a.2 K P H v W r)⟩
/-- a list of the store that is changed no more -/
theorem Wk.freeze {a : Addr} {ws : List Dt} (h : S a = some (.lst ws)) : Wk (.ref a) S (.lst ws) (sdel S a) := ⟨sub_sdel, fun K P H v W r => by
  unfold Rp at r ⊢
  obtain ⟨xs, e, rl⟩ := W.sim a _ h
  exact ⟨a, xs, r, ⟨e, by unfold sdel; rw [if_pos rfl], W.nohid h⟩, rl.sub sub_sdel⟩⟩
theorem Wk.freezeI {a C : Addr} {ns : List Str} {ws : List Dt} (h : S a = some (.ins C ns ws)) : Wk (.ref a) S (.ins C ns ws) (sdel S a) := ⟨sub_sdel, fun K P H v W r => by
  unfold Rp at r ⊢
  obtain ⟨dx, xs, e, z, rl⟩ := W.sim a _ h
  exact ⟨a, dx, xs, r, ⟨e, by unfold sdel; rw [if_pos rfl], W.nohid h⟩, z, rl.sub sub_sdel⟩⟩
end
@[irreducible] def clo (Q : Dt → Store → Prop) (w : Dt) (S : Store) : Prop := ∃ w' S', Wk w S w' S' ∧ Q w' S'
theorem clo.of {Q : Dt → Store → Prop} {w : Dt} {S : Store} (h : Q w S) : clo Q w S := by unfold clo; exact ⟨w, S, Wk.refl, h⟩
theorem clo.wk {Q : Dt → Store → Prop} {w w' : Dt} {S S' : Store} (h : Q w' S') (s : Wk w S w' S') : clo Q w S := by unfold clo; exact ⟨w', S', s, h⟩
theorem clo.sub {Q : Dt → Store → Prop} {w : Dt} {S S' : Store} (h : Q w S') (s : Sub S' S) : clo Q w S := by unfold clo; exact ⟨w, S', Wk.sub s, h⟩

/-- an exception: its class, its fields (where it has its own dict) -/
structure Exn where
  cls : Value
  fs : Option (List Str × List Dt)
def RpX (K : Frg) (P : Hid) (S : Store) (H : Hp) (x : Exn) (cls : Value) (d : Option Addr) : Prop :=
  cls = x.cls ∧ match x.fs with
    | none => d = none
    | some (ns, ws) => ∃ dd xs, d = some dd ∧ Fz P S H dd (.xd (ns.zip xs)) ∧ ns.length = ws.length ∧ RpL K P S H ws xs
@[irreducible] def clX (Q : Exn → Store → Prop) (x : Exn) (S : Store) : Prop := ∃ S', Sub S' S ∧ Q x S'
theorem clX.of {Q : Exn → Store → Prop} {w : Exn} {S : Store} (h : Q w S) : clX Q w S := by unfold clX; exact ⟨S, Sub.refl, h⟩
theorem clX.sub {Q : Exn → Store → Prop} {w : Exn} {S S' : Store} (h : Q w S') (s : Sub S' S) : clX Q w S := by unfold clX; exact ⟨S', s, h⟩
section
variable {K : Frg} {P : Hid} {S S' : Store} {H H' : Hp} {x : Exn} {cls : Value} {d : Option Addr}
theorem RpX.conv {P' : Hid} (c : ∀ a o, H a = some o → S a = none → ¬ P a → H' a = some o ∧ S' a = none ∧ ¬ P' a) (h : RpX K P S H x cls d) : RpX K P' S' H' x cls d := by
  obtain ⟨c1, fs⟩ := x
  cases fs with
  | none => exact h
  | some p =>
    obtain ⟨ns, ws⟩ := p
    obtain ⟨e, dd, xs, e2, f, z, r⟩ := h
    exact ⟨e, dd, xs, e2, c dd _ f.1 f.2.1 f.2.2, z, r.conv c⟩
theorem RpX.mono (e : Evo S H S' H') (h : RpX K P S H x cls d) : RpX K P S' H' x cls d := h.conv fun a o r n p => ⟨(e a o n r).1, (e a o n r).2, p⟩
theorem RpX.sub (e : Sub S' S) (h : RpX K P S H x cls d) : RpX K P S' H x cls d := h.conv fun a o r n p => ⟨r, e.none n, p⟩
end
/-- slots -/
def RpS (K : Frg) (P : Hid) (S : Store) (H : Hp) (σ : Env) (σv : L2.St) : Prop := σv.length = σ.length ∧ ∀ (i : Nat) (w : Dt), σ[i]? = some (some w) → ∃ v, σv[i]? = some (some v) ∧ Rp K P S H w v
section
variable {K : Frg} {P : Hid} {S S' S2 : Store} {H H' H2 : Hp} {σ σ' : Env} {σv : L2.St}
theorem RpS.mono (e : Evo S H S' H') (h : RpS K P S H σ σv) : RpS K P S' H' σ σv := ⟨h.1, fun i w q => let ⟨v, a, b⟩ := h.2 i w q; ⟨v, a, b.mono e⟩⟩
theorem RpS.sub (e : Sub S' S) (h : RpS K P S H σ σv) : RpS K P S' H σ σv := ⟨h.1, fun i w q => let ⟨v, a, b⟩ := h.2 i w q; ⟨v, a, b.sub e⟩⟩
theorem RpS.set (h : RpS K P S H σ σv) {i : Nat} {w : Dt} {v : V} (r : Rp K P S H w v) : RpS K P S H (σ.set i (some w)) (σv.set i (some v)) := by
  refine ⟨by rw [List.length_set, List.length_set]; exact h.1, fun j z q => ?_⟩
  by_cases e : i = j
  · subst e
    by_cases l : i < σ.length
    · rw [List.getElem?_set_self l] at q
      cases q
      exact ⟨v, by rw [List.getElem?_set_self (by rw [h.1]; exact l)], r⟩
    · rw [List.getElem?_eq_none (by rw [List.length_set]; omega)] at q
      cases q
  · rw [List.getElem?_set_ne e] at q ⊢
    exact h.2 j z q
/-- what follows: a value, an exception -/
def NQ (K : Frg) (P : Hid) (S : Store) (H : Hp) (Q : Dt → Store → Prop) (Qv : VK) : Prop := ∀ v H' w S', Wd K P S' H' → Rp K P S' H' w v → Evo S H S' H' → Q w S' → Qv v H'
def NX (K : Frg) (P : Hid) (S : Store) (H : Hp) (Q : Exn → Store → Prop) (E : XK) : Prop := ∀ cls d H' x S', Wd K P S' H' → RpX K P S' H' x cls d → Evo S H S' H' → Q x S' → E cls d H'
def NN (K : Frg) (P : Hid) (S : Store) (H : Hp) (Q : Env → Store → Prop) (N : L2.St → Hp → Prop) : Prop := ∀ σv' H' σ' S', Wd K P S' H' → RpS K P S' H' σ' σv' → Evo S H S' H' → Q σ' S' → N σv' H'
def NXS (K : Frg) (P : Hid) (S : Store) (H : Hp) (Q : Exn → Env → Store → Prop) (E : WX) : Prop := ∀ cls d σv' H' x σ' S', Wd K P S' H' → RpX K P S' H' x cls d → RpS K P S' H' σ' σv' → Evo S H S' H' → Q x σ' S' → E cls d σv' H'
variable {Q : Dt → Store → Prop} {Qv : VK} {Ex : Exn → Store → Prop} {E : XK}
theorem NQ.after (h : NQ K P S H Q Qv) (e : Evo S H S' H') : NQ K P S' H' Q Qv := fun v H2 w S2 W r e2 q => h v H2 w S2 W r (e.trans e2) q
theorem NX.after (h : NX K P S H Ex E) (e : Evo S H S' H') : NX K P S' H' Ex E := fun c d H2 w S2 W r e2 q => h c d H2 w S2 W r (e.trans e2) q
theorem NN.after {Q : Env → Store → Prop} {N : L2.St → Hp → Prop} (h : NN K P S H Q N) (e : Evo S H S' H') : NN K P S' H' Q N := fun c d H2 S2 W r e2 q => h c d H2 S2 W r (e.trans e2) q
theorem NXS.after {Q : Exn → Env → Store → Prop} {N : WX} (h : NXS K P S H Q N) (e : Evo S H S' H') : NXS K P S' H' Q N := fun c d v H2 x s S2 W r r2 e2 q => h c d v H2 x s S2 W r r2 (e.trans e2) q
theorem NQ.now (h : NQ K P S H Q Qv) (W : Wd K P S H) {w : Dt} {v : V} (r : Rp K P S H w v) (q : Q w S) : Qv v H := h v H w S W r Evo.refl q
theorem NQ.clo (h : NQ K P S H Q Qv) : NQ K P S H (Dn.clo Q) Qv := fun v H2 w S2 W r e2 q => by
  unfold Dn.clo at q
  obtain ⟨w', S3, k, q⟩ := q
  exact h v H2 w' S3 (W.sub k.1) (k.2 K P H2 v W r) (e2.sub k.1) q
theorem NX.clo (h : NX K P S H Ex E) : NX K P S H (Dn.clX Ex) E := fun c d H2 w S2 W r e2 q => by
  unfold Dn.clX at q
  obtain ⟨S3, k, q⟩ := q
  exact h c d H2 w S3 (W.sub k) (r.sub k) (e2.sub k) q
end

/-! ### judgements -/
abbrev ME := Env → Store → (Dt → Store → Prop) → (Exn → Store → Prop) → Prop
abbrev MT := Env → Store → (Bool → Store → Prop) → (Exn → Store → Prop) → Prop
abbrev MA := Env → Store → (List Dt → Store → Prop) → (Exn → Store → Prop) → Prop
structure EndsW where
  nx : Env → Store → Prop
  rt : Dt → Store → Prop
  bk : Env → Store → Prop
  ct : Env → Store → Prop
  ex : Exn → Env → Store → Prop
abbrev MS := EndsW → Env → Store → Prop
def rdE (K : Frg) (E : WX) (m : ME) : TE := fun σv H Qv => ∃ P S σ Q Ex, Wd K P S H ∧ RpS K P S H σ σv ∧ m σ S Q Ex ∧ NQ K P S H Q Qv ∧ NX K P S H Ex (fun c d H' => E c d σv H')
def NB (K : Frg) (P : Hid) (S : Store) (H : Hp) (Q : Bool → Store → Prop) (Qv : Bool → Hp → Prop) : Prop := ∀ b H' S', Wd K P S' H' → Evo S H S' H' → Q b S' → Qv b H'
def NL (K : Frg) (P : Hid) (S : Store) (H : Hp) (Q : List Dt → Store → Prop) (Qv : List V → Hp → Prop) : Prop := ∀ vs H' ws S', Wd K P S' H' → RpL K P S' H' ws vs → Evo S H S' H' → Q ws S' → Qv vs H'
def rdT (K : Frg) (E : WX) (m : MT) : TT := fun σv H Qv => ∃ P S σ Q Ex, Wd K P S H ∧ RpS K P S H σ σv ∧ m σ S Q Ex ∧ NB K P S H Q Qv ∧ NX K P S H Ex (fun c d H' => E c d σv H')
def rdA (K : Frg) (E : WX) (m : MA) : TA := fun σv H Qv => ∃ P S σ Q Ex, Wd K P S H ∧ RpS K P S H σ σv ∧ m σ S Q Ex ∧ NL K P S H Q Qv ∧ NX K P S H Ex (fun c d H' => E c d σv H')
structure DOk (K : Frg) (P : Hid) (S : Store) (H : Hp) (Dw : EndsW) (D : Ends) (E : WX) : Prop where
  nx : NN K P S H Dw.nx D.nx
  rt : NQ K P S H Dw.rt D.rt
  bk : NN K P S H Dw.bk D.bk
  ct : NN K P S H Dw.ct D.ct
  ex : NXS K P S H Dw.ex E
theorem DOk.after {K : Frg} {P : Hid} {S S' : Store} {H H' : Hp} {Dw : EndsW} {D : Ends} {E : WX} (h : DOk K P S H Dw D E) (e : Evo S H S' H') : DOk K P S' H' Dw D E :=
  ⟨h.nx.after e, h.rt.after e, h.bk.after e, h.ct.after e, h.ex.after e⟩
def rdS (K : Frg) (E : WX) (m : MS) : TS := fun D σv H => ∃ P S σ Dw, Wd K P S H ∧ RpS K P S H σ σv ∧ m Dw σ S ∧ DOk K P S H Dw D E
def JE (X : Cx) (E : WX) (e : Expr) (m : ME) : Prop := PE X e (rdE X.K E m)
def JT (X : Cx) (E : WX) (e : Expr) (m : MT) : Prop := PT X e (rdT X.K E m)
def JW (X : Cx) (E : WX) (e : Expr) (m : MT) : Prop := PW X e (rdT X.K E m)
def JA (X : Cx) (E : WX) (es : List Expr) (m : MA) : Prop := PA X es (rdA X.K E m)
def JS (X : Cx) (E : WX) (s : Stmt) (m : MS) : Prop := PS X s (rdS X.K E m)
def JSs (X : Cx) (E : WX) (s : List Stmt) (m : MS) : Prop := PSs X s (rdS X.K E m)
theorem PE.weak {X : Cx} {e : Expr} {t t' : TE} (h : PE X e t) (i : ∀ σ H Q, t' σ H Q → t σ H Q) : PE X e t' := ⟨fun pins s σ H Q I q => h.run pins s σ H Q I (i σ H Q q)⟩
theorem PT.weak {X : Cx} {e : Expr} {t t' : TT} (h : PT X e t) (i : ∀ σ H Q, t' σ H Q → t σ H Q) : PT X e t' := ⟨fun pins s σ H Q I q => h.run pins s σ H Q I (i σ H Q q)⟩
theorem PW.weak {X : Cx} {e : Expr} {t t' : TT} (h : PW X e t) (i : ∀ σ H Q, t' σ H Q → t σ H Q) : PW X e t' := ⟨fun wh pins s σ H Q I q => h.run wh pins s σ H Q I (i σ H Q q)⟩
theorem PA.weak {X : Cx} {e : List Expr} {t t' : TA} (h : PA X e t) (i : ∀ σ H Q, t' σ H Q → t σ H Q) : PA X e t' := ⟨fun pos pins s σ H Q I q => h.run pos pins s σ H Q I (i σ H Q q)⟩
theorem PS.weak {X : Cx} {e : Stmt} {t t' : TS} (h : PS X e t) (i : ∀ σ H Q, t' Q σ H → t Q σ H) : PS X e t' := ⟨fun pins s σ H Q I q => h.run pins s σ H Q I (i σ H Q q)⟩
theorem PSs.weak {X : Cx} {e : List Stmt} {t t' : TS} (h : PSs X e t) (i : ∀ σ H Q, t' Q σ H → t Q σ H) : PSs X e t' := ⟨fun pins s σ H Q I q => h.run pins s σ H Q I (i σ H Q q)⟩
end Dn

namespace Dn
open PySem PySem.Spec PyProof.Rows L2
section
variable {X : Cx} {E : WX}
/-! ### names, constants -/
def mVar (i : Nat) : ME := fun σ S Q _ => match σ[i]? with | some (some w) => Q w S | _ => False
def mC (w : Dt) : ME := fun _ S Q _ => Q w S
theorem je_var {i : Nat} {x : Str} {pos : Pos} (h : PE X (.Name x pos) (tVar i)) : JE X E (.Name x pos) (mVar i) := PE.weak h fun σv H Qv q => by
  obtain ⟨P, S, σ, Q, Ex, W, r, m, nq, nx⟩ := q
  unfold mVar at m
  split at m
  · rename_i w e
    obtain ⟨v, e1, r1⟩ := r.2 i w e
    exact ⟨v, e1, nq.now W r1 m⟩
  · exact m.elim
theorem je_c {e : Expr} {v : V} {w : Dt} (h : PE X e (tC v)) (c : ∀ P S H, Rp X.K P S H w v) : JE X E e (mC w) := PE.weak h fun σv H Qv q => by
  obtain ⟨P, S, σ, Q, Ex, W, r, m, nq, nx⟩ := q
  exact nq.now W (c P S H) m
theorem je_int {i j pos} : JE X E (.Constant (.int i) j pos) (mC (.int i)) := je_c pe_int fun P S H => by unfold Rp; rfl
theorem je_bl {i j pos} : JE X E (.Constant (.bool i) j pos) (mC (.bl i)) := je_c pe_bl fun P S H => by unfold Rp; rfl
theorem je_non {j pos} : JE X E (.Constant .none j pos) (mC .non) := je_c pe_non fun P S H => by unfold Rp; rfl
theorem je_str {i j pos} : JE X E (.Constant (.str i) j pos) (mC (.str i)) := je_c pe_str fun P S H => by unfold Rp; rfl
/-- a module's number, text -/
theorem je_gint {x : Str} {i : Int} {t : Tok} {pos : Pos} (hg : Gl X x) (hm : X.mg x = some (.int i t)) (hd : (x == ("__debug__" : Str)) = false := by decide) : JE X E (.Name x pos) (mC (.int i)) :=
  je_c (pe_glob (v := .int i) hg hm ⟨t, rfl⟩ hd) fun P S H => by unfold Rp; rfl
theorem je_gstr {x i : Str} {t : Tok} {pos : Pos} (hg : Gl X x) (hm : X.mg x = some (.str i t)) (hd : (x == ("__debug__" : Str)) = false := by decide) : JE X E (.Name x pos) (mC (.str i)) :=
  je_c (pe_glob (v := .str i) hg hm ⟨t, rfl⟩ hd) fun P S H => by unfold Rp; rfl
theorem je_bty {x : Str} {T : String} {pos : Pos} (hg : Gl X x) (hm : X.mg x = none) (hv : bootBuiltins x = some (.type T)) (hn : x ≠ "__name__" := by decide) (hd : (x == ("__debug__" : Str)) = false := by decide) : JE X E (.Name x pos) (mC (.ty T)) :=
  je_c (pe_bltn (v := .ty T) hg hm hv rfl hn hd) fun P S H => by unfold Rp; rfl
/-! ### operators -/
abbrev Op2 := Dt → Dt → Store → (Dt → Store → Prop) → Prop
abbrev Op1 := Dt → Store → (Dt → Store → Prop) → Prop
abbrev OpN := List Dt → Store → (Dt → Store → Prop) → Prop
def rd2 (K : Frg) (g : Op2) : R2 := fun x y H Qv => ∃ P S w z Q, Wd K P S H ∧ Rp K P S H w x ∧ Rp K P S H z y ∧ g w z S Q ∧ NQ K P S H Q Qv
def rd1 (K : Frg) (g : Op1) : V → Hp → VK → Prop := fun x H Qv => ∃ P S w Q, Wd K P S H ∧ Rp K P S H w x ∧ g w S Q ∧ NQ K P S H Q Qv
def rdN (K : Frg) (g : OpN) : List V → Hp → VK → Prop := fun xs H Qv => ∃ P S ws Q, Wd K P S H ∧ RpL K P S H ws xs ∧ g ws S Q ∧ NQ K P S H Q Qv
def rdM (K : Frg) (g : Dt → OpN) : V → List V → Hp → VK → Prop := fun x xs H Qv => ∃ P S w ws Q, Wd K P S H ∧ Rp K P S H w x ∧ RpL K P S H ws xs ∧ g w ws S Q ∧ NQ K P S H Q Qv
def mOp (g : Op2) (ma mb : ME) : ME := fun σ S Q Ex => ma σ S (fun x S1 => mb σ S1 (fun y S2 => g x y S2 Q) Ex) Ex
def mUn (g : Op1) (ma : ME) : ME := fun σ S Q Ex => ma σ S (fun x S1 => g x S1 Q) Ex
def mFn (g : OpN) (ma : MA) : ME := fun σ S Q Ex => ma σ S (fun xs S1 => g xs S1 Q) Ex
def mMt (g : Dt → OpN) (mo : ME) (ma : MA) : ME := fun σ S Q Ex => mo σ S (fun x S1 => ma σ S1 (fun xs S2 => g x xs S2 Q) Ex) Ex
variable {a b c : Expr} {ma mb mc : ME} {pos : Pos}
theorem op_weak {g : Op2} {K : Frg} {σv : L2.St} {H : Hp} {Qv : VK} (h : rdE K E (mOp g ma mb) σv H Qv) : tOp (rd2 K g) (rdE K E ma) (rdE K E mb) σv H Qv := by
  obtain ⟨P, S, σ, Q, Ex, W, r, m, nq, nx⟩ := h
  refine ⟨P, S, σ, _, Ex, W, r, m, fun v H1 w S1 W1 r1 e1 m1 => ?_, nx⟩
  refine ⟨P, S1, σ, _, Ex, W1, r.mono e1, m1, fun v2 H2 w2 S2 W2 r2 e2 m2 => ?_, nx.after e1⟩
  exact ⟨P, S2, w, w2, Q, W2, r1.mono e2, r2, m2, nq.after (e1.trans e2)⟩
theorem je_op {op : Operator} {g : Op2} (ho : OpR X (binaryOp op) (rd2 X.K g)) (ha : JE X E a ma) (hb : JE X E b mb) : JE X E (.BinOp a op b pos) (mOp g ma mb) := PE.weak (pe_op ho ha hb) fun _ _ _ => op_weak
theorem je_cmp {op : CmpOp} {g : Op2} (ho : OpR X (compareOp op) (rd2 X.K g)) (ha : JE X E a ma) (hb : JE X E b mb) (hm : behindInMarks op b = false) : JE X E (.Compare a [op] [b] pos) (mOp g ma mb) := PE.weak (pe_cmpR ho ha hb hm) fun _ _ _ => op_weak
theorem je_un {op : UnaryOp} {g : Op1} (ho : UnR X (unaryOp op) (rd1 X.K g)) (ha : JE X E a ma) : JE X E (.UnaryOp op a pos) (mUn g ma) := PE.weak (pe_un ho ha) fun σv H Qv q => by
  obtain ⟨P, S, σ, Q, Ex, W, r, m, nq, nx⟩ := q
  exact ⟨P, S, σ, _, Ex, W, r, m, fun v H1 w S1 W1 r1 e1 m1 => ⟨P, S1, w, Q, W1, r1, m1, nq.after e1⟩, nx⟩
def mChain (g g' : Op2) (ma mb mc : ME) : ME := fun σ S Q Ex => ma σ S (fun x S1 => mb σ S1 (fun y S2 => g x y S2 fun z S3 => match z with
  | .bl true => mc σ S3 (fun u S4 => g' y u S4 Q) Ex
  | .bl false => Q (.bl false) S3
  | _ => False) Ex) Ex
/-! ### arguments, displays -/
def mNil : MA := fun _ S Q _ => Q [] S
def mCons (ma : ME) (mr : MA) : MA := fun σ S Q Ex => ma σ S (fun x S1 => mr σ S1 (fun xs S2 => Q (x :: xs) S2) Ex) Ex
theorem ja_nil : JA X E [] mNil := PA.weak pa_nil fun σv H Qv q => by
  obtain ⟨P, S, σ, Q, Ex, W, r, m, nq, nx⟩ := q
  exact nq [] H [] S W RpL.nil Evo.refl m
theorem ja_cons {e : Expr} {es : List Expr} {mr : MA} (ha : JE X E e ma) (hr : JA X E es mr) (hs : starEach (e :: es) X.env = (false, eval e X.env) :: starEach es X.env := by rfl) : JA X E (e :: es) (mCons ma mr) := PA.weak (pa_cons ha hr hs) fun σv H Qv q => by
  obtain ⟨P, S, σ, Q, Ex, W, r, m, nq, nx⟩ := q
  refine ⟨P, S, σ, _, Ex, W, r, m, fun v H1 w S1 W1 r1 e1 m1 => ?_, nx⟩
  refine ⟨P, S1, σ, _, Ex, W1, r.mono e1, m1, fun v2 H2 w2 S2 W2 r2 e2 m2 => ?_, nx.after e1⟩
  exact nq (v :: v2) H2 (w :: w2) S2 W2 (RpL.cons (r1.mono e2) r2) (e1.trans e2) m2
def mTup (ma : MA) : ME := fun σ S Q Ex => ma σ S (fun xs S1 => xs.length ≤ sizeLine ∧ Q (.tup xs) S1) Ex
theorem je_tup {es : List Expr} {x1} {mr : MA} (h : JA X E es mr) : JE X E (.Tuple es x1 pos) (mTup mr) := PE.weak (pe_tup h) fun σv H Qv q => by
  obtain ⟨P, S, σ, Q, Ex, W, r, m, nq, nx⟩ := q
  refine ⟨P, S, σ, _, Ex, W, r, m, fun vs H1 ws S1 W1 r1 e1 m1 => ?_, nx⟩
  refine ⟨by rw [← r1.length]; exact m1.1, fun p hp => ?_⟩
  refine nq (.ref p) _ (.tup ws) S1 (W1.new hp) ?_ (e1.trans (Evo.new hp)) m1.2
  unfold Rp
  exact ⟨p, vs, rfl, Fz.new W1 hp, r1.mono (Evo.new hp)⟩
/-- a new list: as a datum, as an object of the store -/
abbrev ML := Env → Store → (List Dt → Store → Prop) → (Exn → Store → Prop) → Prop
def rdL (K : Frg) (E : WX) (m : ML) : TE := fun σv H Qv => ∃ P S σ Q Ex, Wd K P S H ∧ RpS K P S H σ σv ∧ m σ S Q Ex ∧
  (∀ p H' H1 xs ws S', Wd K P S' H' → H' p = none → H1 = upd H' p (.lst xs) → RpL K P S' H' ws xs → Evo S H S' H' → Q ws S' → Qv (.ref p) H1) ∧ NX K P S H Ex (fun c d H' => E c d σv H')
def JL (X : Cx) (E : WX) (e : Expr) (m : ML) : Prop := PE X e (rdL X.K E m)
def mFrz (m : ML) : ME := fun σ S Q Ex => m σ S (fun ws S1 => Q (.lst ws) S1) Ex
def mRef (m : ML) : ME := fun σ S Q Ex => m σ S (fun ws S1 => ∀ p, S1 p = none → Q (.ref p) (sup S1 p (.lst ws))) Ex
theorem je_frz {e : Expr} {m : ML} (h : JL X E e m) : JE X E e (mFrz m) := PE.weak h fun σv H Qv q => by
  obtain ⟨P, S, σ, Q, Ex, W, r, m, nq, nx⟩ := q
  refine ⟨P, S, σ, _, Ex, W, r, m, fun p H' H1 xs ws S' W' hp e1 rl ev q => ?_, nx⟩
  subst e1
  refine nq (.ref p) _ (.lst ws) S' (W'.new hp) ?_ (ev.trans (Evo.new hp)) q
  unfold Rp
  exact ⟨p, xs, rfl, Fz.new W' hp, rl.mono (Evo.new hp)⟩
theorem je_ref {e : Expr} {m : ML} (h : JL X E e m) : JE X E e (mRef m) := PE.weak h fun σv H Qv q => by
  obtain ⟨P, S, σ, Q, Ex, W, r, m, nq, nx⟩ := q
  refine ⟨P, S, σ, _, Ex, W, r, m, fun p H' H1 xs ws S' W' hp e1 rl ev q => ?_, nx⟩
  subst e1
  have fr := W'.free hp
  refine nq (.ref p) _ (.ref p) (sup S' p (.lst ws)) (W'.put fr.2 (fun _ => hp) ⟨xs, upd_same, rl.mono (Evo.alloc hp)⟩) (by unfold Rp; rfl) (ev.trans (Evo.alloc hp)) (q p fr.1)
def mLst (ma : MA) : ML := fun σ S Q Ex => ma σ S (fun xs S1 => xs.length ≤ sizeLine ∧ Q xs S1) Ex
theorem jl_lst {es : List Expr} {mr : MA} (h : JA X E es mr) : JL X E (.List es pos) (mLst mr) := PE.weak (pe_lst h) fun σv H Qv q => by
  obtain ⟨P, S, σ, Q, Ex, W, r, m, nq, nx⟩ := q
  refine ⟨P, S, σ, _, Ex, W, r, m, fun vs H1 ws S1 W1 r1 e1 m1 => ?_, nx⟩
  refine ⟨by rw [← r1.length]; exact m1.1, fun p hp => ?_⟩
  exact nq p H1 _ vs ws S1 W1 hp rfl r1 e1 m1.2
/-! ### tests -/
/-- one of two ways -/
def br (b : Bool) (p q : Prop) : Prop := match b with
  | true => p
  | false => q
theorem br_true {p q : Prop} : br true p q = p := rfl
theorem br_false {p q : Prop} : br false p q = q := rfl
def truthW (S : Store) : Dt → Option Bool
  | .non => some false
  | .bl b => some b
  | .int i => some (i != 0)
  | .lst ws => some (!ws.isEmpty)
  | .kl ws => some (!ws.isEmpty)
  | .tup ws => some (!ws.isEmpty)
  | .kt ws => some (!ws.isEmpty)
  | .ref a => match S a with | some (.lst ws) => some (!ws.isEmpty) | _ => none
  | _ => none
def mTr (m : ME) : MT := fun σ S Q Ex => m σ S (fun w S1 => match truthW S1 w with | some b => Q b S1 | none => False) Ex
theorem RpL.isEmpty {K : Frg} {P : Hid} {S : Store} {H : Hp} {ws : List Dt} {xs : List V} (h : RpL K P S H ws xs) : ws.isEmpty = xs.isEmpty := by
  have := h.length
  cases ws <;> cases xs <;> simp_all
theorem Fz.sqL {K : Frg} {P : Hid} {S : Store} {H : Hp} {a : Addr} {xs : List V} (h : Fz P S H a (.lst xs)) : SqL K H a xs := SqL.of h.1
theorem sqT_of {K : Frg} {P : Hid} {S : Store} {H : Hp} {a : Addr} {xs : List V} (h : Fz P S H a (.tup xs) ∨ KT K a xs) : SqT K H a xs := h.elim (fun f => SqT.of f.1) KT.sq
theorem sqK_of {K : Frg} {P : Hid} {S : Store} {H : Hp} {a : Addr} {xs : List V} (h : (∃ o, Fz P S H a (.frz o (.lst xs))) ∨ KL K a xs) : SqL K H a xs := h.elim (fun ⟨o, f⟩ => .inl (.inr ⟨o, f.1⟩)) KL.sq
theorem truth_of {K : Frg} {P : Hid} {S : Store} {H : Hp} {w : Dt} {v : V} {b : Bool} (W : Wd K P S H) (r : Rp K P S H w v) (h : truthW S w = some b) : TruV K v H b := by
  cases w with
  | non => unfold Rp at r; subst r; cases h; rfl
  | bl k => unfold Rp at r; subst r; cases h; rfl
  | int i => unfold Rp at r; subst r; cases h; rfl
  | lst ws =>
    unfold Rp at r
    obtain ⟨a, xs, rfl, f, rl⟩ := r
    cases h
    exact .inl ⟨xs, f.sqL, by rw [rl.isEmpty]⟩
  | kl ws =>
    unfold Rp at r
    obtain ⟨a, xs, rfl, f, rl⟩ := r
    cases h
    exact .inl ⟨xs, sqK_of f, by rw [rl.isEmpty]⟩
  | tup ws =>
    unfold Rp at r
    obtain ⟨a, xs, rfl, f, rl⟩ := r
    cases h
    exact .inr (.inl ⟨xs, sqT_of (.inl f), by rw [rl.isEmpty]⟩)
  | kt ws =>
    unfold Rp at r
    obtain ⟨a, xs, rfl, f, rl⟩ := r
    cases h
    exact .inr (.inl ⟨xs, f.sq, by rw [rl.isEmpty]⟩)
  | ref a =>
    unfold Rp at r
    subst r
    unfold truthW at h
    dsimp only at h
    cases e : S a with
    | none => rw [e] at h; cases h
    | some o =>
      rw [e] at h
      cases o with
      | lst ws =>
        cases h
        obtain ⟨xs, e2, rl⟩ := W.sim a _ e
        exact .inl ⟨xs, SqL.of e2, by rw [rl.isEmpty]⟩
      | ins _ _ _ => cases h
      | dK _ _ => cases h
      | dT _ _ => cases h
  | str x => cases h
  | ty n => cases h
  | ins _ _ _ => cases h
  | dK _ _ => cases h
  | dT _ _ => cases h
  | exn _ _ _ _ => cases h
theorem jt_val {e : Expr} {m : ME} (h : JE X E e m) (he : ∀ whole, isTrue e X.env whole = (do let v ← whole; standAt e.pos; holding [v] (truthy v)) := by intro _; rfl) : JT X E e (mTr m) := PT.weak (pt_truth h he) fun σv H Qv q => by
  obtain ⟨P, S, σ, Q, Ex, W, r, m, nq, nx⟩ := q
  refine ⟨P, S, σ, _, Ex, W, r, m, fun v H1 w S1 W1 r1 e1 m1 => ?_, nx⟩
  dsimp only at m1
  split at m1
  · rename_i b hb
    exact ⟨b, truth_of W1 r1 hb, nq b H1 S1 W1 e1 m1⟩
  · exact m1.elim
variable {A B : Expr} {mA mB : MT} {rest : List Expr}
def mAnd (ma mb : MT) : MT := fun σ S Q Ex => ma σ S (fun b S1 => br b (mb σ S1 Q Ex) (Q false S1)) Ex
def mOr (ma mb : MT) : MT := fun σ S Q Ex => ma σ S (fun b S1 => br b (Q true S1) (mb σ S1 Q Ex)) Ex
def mNot (ma : MT) : MT := fun σ S Q Ex => ma σ S (fun b S1 => Q (!b) S1) Ex
theorem jw_one {o : BoolOp} (h : JT X E A mA) : JW X E (.BoolOp o [A] pos) mA := by
  cases o
  · exact pw_and1 h
  · exact pw_or1 h
theorem jw_and (h1 : JT X E A mA) (h2 : JW X E (.BoolOp .And (B :: rest) pos) mB) : JW X E (.BoolOp .And (A :: B :: rest) pos) (mAnd mA mB) := PW.weak (pw_and h1 h2) fun σv H Qv q => by
  obtain ⟨P, S, σ, Q, Ex, W, r, m, nq, nx⟩ := q
  refine ⟨P, S, σ, _, Ex, W, r, m, fun b H1 S1 W1 e1 m1 => ?_, nx⟩
  cases b with
  | true => exact ⟨P, S1, σ, Q, Ex, W1, r.mono e1, m1, fun b H2 S2 W2 e2 q2 => nq b H2 S2 W2 (e1.trans e2) q2, nx.after e1⟩
  | false => exact nq false H1 S1 W1 e1 m1
theorem jw_or (h1 : JT X E A mA) (h2 : JW X E (.BoolOp .Or (B :: rest) pos) mB) : JW X E (.BoolOp .Or (A :: B :: rest) pos) (mOr mA mB) := PW.weak (pw_or h1 h2) fun σv H Qv q => by
  obtain ⟨P, S, σ, Q, Ex, W, r, m, nq, nx⟩ := q
  refine ⟨P, S, σ, _, Ex, W, r, m, fun b H1 S1 W1 e1 m1 => ?_, nx⟩
  cases b with
  | false => exact ⟨P, S1, σ, Q, Ex, W1, r.mono e1, m1, fun b H2 S2 W2 e2 q2 => nq b H2 S2 W2 (e1.trans e2) q2, nx.after e1⟩
  | true => exact nq true H1 S1 W1 e1 m1
theorem jt_w (h : JW X E A mA) : JT X E A mA := PW.pt h
theorem jt_not (h : JT X E A mA) : JT X E (.UnaryOp .Not A pos) (mNot mA) := PT.weak (pt_not h) fun σv H Qv q => by
  obtain ⟨P, S, σ, Q, Ex, W, r, m, nq, nx⟩ := q
  exact ⟨P, S, σ, _, Ex, W, r, m, fun b H1 S1 W1 e1 m1 => nq (!b) H1 S1 W1 e1 m1, nx⟩
/-! ### and, or, not, if as values (True and False) -/
def mAndV (ma mb : ME) : ME := fun σ S Q Ex => ma σ S (fun w S1 => match w with | .bl true => mb σ S1 Q Ex | .bl false => Q (.bl false) S1 | _ => False) Ex
def mOrV (ma mb : ME) : ME := fun σ S Q Ex => ma σ S (fun w S1 => match w with | .bl false => mb σ S1 Q Ex | .bl true => Q (.bl true) S1 | _ => False) Ex
def mNotV (ma : ME) : ME := fun σ S Q Ex => ma σ S (fun w S1 => match w with | .bl b => Q (.bl (!b)) S1 | _ => False) Ex
theorem je_one {o : BoolOp} (h : JE X E a ma) : JE X E (.BoolOp o [a] pos) ma := pe_one h
theorem je_and (h1 : JE X E a ma) (h2 : JE X E (.BoolOp .And (b :: rest) pos) mb) : JE X E (.BoolOp .And (a :: b :: rest) pos) (mAndV ma mb) := PE.weak (pe_and h1 h2) fun σv H Qv q => by
  obtain ⟨P, S, σ, Q, Ex, W, r, m, nq, nx⟩ := q
  refine ⟨P, S, σ, _, Ex, W, r, m, fun v H1 w S1 W1 r1 e1 m1 => ?_, nx⟩
  dsimp only at m1
  split at m1
  · unfold Rp at r1
    exact ⟨true, r1, P, S1, σ, Q, Ex, W1, r.mono e1, m1, nq.after e1, nx.after e1⟩
  · unfold Rp at r1
    refine ⟨false, r1, ?_⟩
    exact nq (.bl false) H1 (.bl false) S1 W1 (by unfold Rp; rfl) e1 m1
  · exact m1.elim
theorem je_or (h1 : JE X E a ma) (h2 : JE X E (.BoolOp .Or (b :: rest) pos) mb) : JE X E (.BoolOp .Or (a :: b :: rest) pos) (mOrV ma mb) := PE.weak (pe_or h1 h2) fun σv H Qv q => by
  obtain ⟨P, S, σ, Q, Ex, W, r, m, nq, nx⟩ := q
  refine ⟨P, S, σ, _, Ex, W, r, m, fun v H1 w S1 W1 r1 e1 m1 => ?_, nx⟩
  dsimp only at m1
  split at m1
  · unfold Rp at r1
    exact ⟨false, r1, P, S1, σ, Q, Ex, W1, r.mono e1, m1, nq.after e1, nx.after e1⟩
  · unfold Rp at r1
    refine ⟨true, r1, ?_⟩
    exact nq (.bl true) H1 (.bl true) S1 W1 (by unfold Rp; rfl) e1 m1
  · exact m1.elim
theorem je_not (h1 : JE X E a ma) : JE X E (.UnaryOp .Not a pos) (mNotV ma) := PE.weak (pe_not h1) fun σv H Qv q => by
  obtain ⟨P, S, σ, Q, Ex, W, r, m, nq, nx⟩ := q
  refine ⟨P, S, σ, _, Ex, W, r, m, fun v H1 w S1 W1 r1 e1 m1 => ?_, nx⟩
  dsimp only at m1
  split at m1
  · rename_i k
    unfold Rp at r1
    exact ⟨k, r1, nq (.bl (!k)) H1 (.bl (!k)) S1 W1 (by unfold Rp; rfl) e1 m1⟩
  · exact m1.elim
def mIf (mt : MT) (ma mb : ME) : ME := fun σ S Q Ex => mt σ S (fun b S1 => br b (ma σ S1 Q Ex) (mb σ S1 Q Ex)) Ex
theorem je_if (hc : JT X E A mA) (ha : JE X E a ma) (hb : JE X E b mb) : JE X E (.IfExp A a b pos) (mIf mA ma mb) := PE.weak (pe_ifExp hc ha hb) fun σv H Qv q => by
  obtain ⟨P, S, σ, Q, Ex, W, r, m, nq, nx⟩ := q
  refine ⟨P, S, σ, _, Ex, W, r, m, fun b H1 S1 W1 e1 m1 => ?_, nx⟩
  cases b with
  | true => exact ⟨P, S1, σ, Q, Ex, W1, r.mono e1, m1, nq.after e1, nx.after e1⟩
  | false => exact ⟨P, S1, σ, Q, Ex, W1, r.mono e1, m1, nq.after e1, nx.after e1⟩
/-! ### calls -/
theorem fn_weak {g : OpN} {K : Frg} {ma : MA} {σv : L2.St} {H : Hp} {Qv : VK} (h : rdE K E (mFn g ma) σv H Qv) : tCB (rdN K g) (rdA K E ma) σv H Qv := by
  obtain ⟨P, S, σ, Q, Ex, W, r, m, nq, nx⟩ := h
  exact ⟨P, S, σ, _, Ex, W, r, m, fun v H1 w S1 W1 r1 e1 m1 => ⟨P, S1, w, Q, W1, r1, m1, nq.after e1⟩, nx⟩
theorem je_callB {x : Str} {id : String} {e : Expr} {es : List Expr} {g : OpN} {ma : MA} {p : Pos} (hc : CallR X (.builtin id) (rdN X.K g)) (hg : Gl X x) (hm : X.mg x = none) (hv : bootBuiltins x = some (.builtin id)) (ha : JA X E (e :: es) ma) (hn : x ≠ "__name__" := by decide) (hdb : (x == ("__debug__" : Str)) = false := by decide)
    (he : starEach (e :: es) X.env = (false, eval e X.env) :: starEach es X.env := by rfl) (hpl : (backTo pos (starEach es X.env)).any (·.1) = false := by rfl) :
    JE X E (.Call (.Name x p) (e :: es) [] pos) (mFn g ma) := PE.weak (pe_callB hc hg hm hv ha hn hdb he hpl) fun _ _ _ => fn_weak
theorem je_callT {x : Str} {T : String} {e : Expr} {es : List Expr} {g : OpN} {ma : MA} {p : Pos} (hc : CallR X (.type T) (rdN X.K g)) (hg : Gl X x) (hm : X.mg x = none) (hv : bootBuiltins x = some (.type T)) (ha : JA X E (e :: es) ma) (hn : x ≠ "__name__" := by decide) (hdb : (x == ("__debug__" : Str)) = false := by decide)
    (he : starEach (e :: es) X.env = (false, eval e X.env) :: starEach es X.env := by rfl) (hpl : (backTo pos (starEach es X.env)).any (·.1) = false := by rfl) :
    JE X E (.Call (.Name x p) (e :: es) [] pos) (mFn g ma) := PE.weak (pe_callTy hc hg hm hv ha hn hdb he hpl) fun _ _ _ => fn_weak
/-- a def's promise -/
abbrev Fw := List Dt → Store → (Dt → Store → Prop) → (Exn → Store → Prop) → Prop
def spOf (K : Frg) (n : Nat) (G : Fw) : Sp := fun vs H Qv Ev => vs.length = n ∧ ∃ P S ws Q Ex, Wd K P S H ∧ RpL K P S H ws vs ∧ G ws S Q Ex ∧ NQ K P S H Q Qv ∧ NX K P S H Ex Ev
def mCall (n : Nat) (G : Fw) (ma : MA) : ME := fun σ S Q Ex => ma σ S (fun ws S1 => ws.length = n ∧ G ws S1 Q Ex) Ex
theorem je_call {k n : Nat} {f : Addr} {fd : FuncData} {ps : List Str} {G : Fw} {x : Str} {p : Pos} {e : Expr} {es : List Expr} {ma : MA} (F : FnOk X.prog X.w X.K X.mg X.base (L2.CX X.prog X.w) k f fd ps (spOf X.K n G)) (hr : Room k X.A) (tk : Takes X E) (hg : Gl X x)
    (hm : X.mg x = some (.ref f)) (hk : PySem.W.keepIn X.K (.ref f) = true) (hb : Binds X.K fd ps []) (ha : JA X E (e :: es) ma)
    (hdb : (x == ("__debug__" : Str)) = false := by decide) (he : starEach (e :: es) X.env = (false, eval e X.env) :: starEach es X.env := by rfl) (hpl : (backTo pos (starEach es X.env)).any (·.1) = false := by rfl) :
    JE X E (.Call (.Name x p) (e :: es) [] pos) (mCall n G ma) := PE.weak (pe_callS F hr hg hm hk hb (fun σ => passAt tk σ) ha hdb he hpl) fun σv H Qv q => by
  obtain ⟨P, S, σ, Q, Ex, W, r, m, nq, nx⟩ := q
  refine ⟨P, S, σ, _, Ex, W, r, m, fun v H1 w S1 W1 r1 e1 m1 => ?_, nx⟩
  exact ⟨by rw [← r1.length]; exact m1.1, P, S1, w, Q, Ex, W1, r1, m1.2, nq.after e1, nx.after e1⟩
/-! ### subscripts, slices, fields, methods -/
theorem je_ix {g : Op2} (hr : IxR X (rd2 X.K g)) (ha : JE X E a ma) (hb : JE X E b mb) (hs : PlainIx b) : JE X E (.Subscript a b pos) (mOp g ma mb) := PE.weak (pe_ix hr ha hb hs) fun _ _ _ => op_weak
end
end Dn

/-! Dn: a tuple taken once, or not at all. -/
namespace Dn
open PySem PySem.Spec PyProof.Rows L2
theorem tup_times_one (ta : Addr) (vs : Array Value) (hs : Nat) (dd : Option Addr) (sl : Array (Option Value)) (u : Tok) :
    Meets (Builtin.«tuple.__mul__» ⟨[.ref ta, .int 1 u], []⟩) (fun _ R st => st.heap.get? ta = some { cls := .type "tuple", dict := dd, data := .seq vs hs, slots := sl } ∧ R (.ok (.ret (.ref ta))) st) :=
  .of_wp fun prog w A R st hyp => by
    obtain ⟨hp, g, d, tk, os⟩ := st
    obtain ⟨at_, hyp⟩ := hyp
    have f1 := AutoSeq1.idx_int
    have c1 : (vs.isEmpty || (1 : Int) == 1) = true := by simp
    wp_walk using wpAny_loadPart' at_
    repeat (first
      | (refine wpAny_ite_false (decide_eq_false (by decide)) ?_; wp_walk using wpAny_loadPart' at_)
      | (refine wpAny_ite_true (decide_eq_true c1) ?_; wp_walk using wpAny_loadPart' at_))
    exact ⟨_, rfl, hyp⟩
theorem tup_times_none (ta : Addr) (vs : Array Value) (hs : Nat) (dd : Option Addr) (sl : Array (Option Value)) (u : Tok) (ne : vs.isEmpty = false) :
    Meets (Builtin.«tuple.__mul__» ⟨[.ref ta, .int 0 u], []⟩) (fun _ R st => st.heap.get? ta = some { cls := .type "tuple", dict := dd, data := .seq vs hs, slots := sl } ∧
      R (.ok (.ret (Value.ref st.heap.objs.size))) { st with heap := st.heap.push { cls := Value.type "tuple", data := Data.seq #[] }, toks := st.toks }) :=
  .of_wp fun prog w A R st hyp => by
    obtain ⟨hp, g, d, tk, os⟩ := st
    obtain ⟨at_, hyp⟩ := hyp
    have f1 := AutoSeq1.idx_int
    have c1 : (vs.isEmpty || (0 : Int) == 1) = false := by rw [ne]; rfl
    wp_walk using wpAny_loadPart' at_
    repeat (first
      | (refine wpAny_ite_false (decide_eq_false (by decide)) ?_; wp_walk using wpAny_loadPart' at_)
      | (refine wpAny_ite_false (decide_eq_false (by rw [c1]; exact Bool.false_ne_true)) ?_; wp_walk using wpAny_loadPart' at_)
      | (refine wpAny_ite_true (by rfl) ?_; wp_walk using wpAny_loadPart' at_)
      | (refine wpAny_ite_true (by simp) ?_; wp_walk using wpAny_loadPart' at_))
    exact ⟨_, rfl, hyp⟩
def rTimes01 (K : Frg) : R2 := fun x y H Q => ∃ l k xs, x = .ref l ∧ y = .int k ∧ SqT K H l xs ∧ xs ≠ [] ∧ ((k = 1 ∧ Q (.ref l) H) ∨ (k = 0 ∧ ∀ p, H p = none → Q (.ref p) (upd H p (.tup []))))
theorem op_times01 {X : Cx} : OpR X (binaryOp .Mult) (rTimes01 X.K) := by
  intro pins st σ H x y v u Q inv rx ry hyp
  obtain ⟨l, k, xs, rfl, rfl, hT, hne, alt⟩ := hyp
  cases rx
  obtain ⟨t, rfl⟩ := ry
  obtain ⟨its, rr, ⟨⟨cls, dd, data, sl⟩, at_, hc, n, hd⟩, hs⟩ := inv.tuple hT
  simp only at hc hd
  subst hc hd
  have ne : its.toArray.isEmpty = false := by
    cases its with
    | nil => exact absurd (List.eq_nil_of_length_eq_zero (show xs.length = 0 from rr.length)) hne
    | cons a b => rfl
  rcases alt with ⟨rfl, q⟩ | ⟨rfl, q⟩
  · exact wpAny_binaryOp_repeat_ref (T := "tuple") (U := "int") (by decide) ⟨_, at_, rfl⟩ (fun s2 => typeIs_int s2 1 t) noFill_tuple_mul F.fills_int_mul F.slot_int_rmul repeat_tuple F.slot_int_index.lookup
      (call_meets F.slot_int_rmul (typeIs_int st 1 t) F.entry_int_rmul (F.args_int_rmul_2 _ _) (int_rmul_tuple 1 t l its.toArray n dd sl)
        ⟨at_, rfl, ⟨_, at_, rfl⟩, call_meets F.slot_tuple_mul ⟨_, at_, rfl⟩ F.entry_tuple_mul (F.args_tuple_mul_2 _ _) (tup_times_one l its.toArray n dd sl t) ⟨at_, .ref l, H, inv.tok _, rfl, q⟩⟩)
  · exact wpAny_binaryOp_repeat_ref (T := "tuple") (U := "int") (by decide) ⟨_, at_, rfl⟩ (fun s2 => typeIs_int s2 0 t) noFill_tuple_mul F.fills_int_mul F.slot_int_rmul repeat_tuple F.slot_int_index.lookup
      (call_meets F.slot_int_rmul (typeIs_int st 0 t) F.entry_int_rmul (F.args_int_rmul_2 _ _) (int_rmul_tuple 0 t l its.toArray n dd sl)
        ⟨at_, rfl, ⟨_, at_, rfl⟩, call_meets F.slot_tuple_mul ⟨_, at_, rfl⟩ F.entry_tuple_mul (F.args_tuple_mul_2 _ _) (tup_times_none l its.toArray n dd sl t ne)
          ⟨at_, .ref st.heap.objs.size, _, inv.laid (t' := st.toks) (o := .tup []) (fun b ob z => Heap.get?_push_of_some _ z) (Nat.le_refl _) ⟨Nat.zero_le _, [], .nil, IsTup.new _ _⟩, rfl, q _ (inv.hok.fresh (Nat.le_refl _))⟩⟩)
theorem ext_tup (la : Addr) (vs : Array Value) (n : Nat) (ta : Addr) (us : Array Value) (n2 : Nat) (dd : Option Addr) (sl : Array (Option Value)) (c0 : ¬(!vs.isEmpty && Builtin.List.listTooLong (vs.size + us.size)) = true) (c1 : vs.size ≤ sizeLine) (c2 : vs.size + us.size ≤ sizeLine + 1) :
    Meets (Builtin.«list.extend» ⟨[.ref la, .ref ta], []⟩) (fun _ R st => st.heap.get? la = some { cls := .type "list", dict := none, data := .seq vs n, slots := #[] } ∧ st.heap.get? ta = some { cls := .type "tuple", dict := dd, data := .seq us n2, slots := sl } ∧
      R (.ok (.ret Value.none)) { st with heap := st.heap.update la (Obj.mapSeq fun x => x ++ us), toks := st.toks }) :=
  .of_wp fun prog w A R st hyp => by
    obtain ⟨hp, g, d, tk, os⟩ := st
    obtain ⟨al, at_, hyp⟩ := hyp
    have f1 := AutoSeq1.idx_int
    have f2 := AutoSeq1.sub_tuple_tuple
    have f3 := AutoSeq1.sub_list_list
    have f4 := AutoSeq1.sub_tuple_list
    have f5 := AutoSeq1.sub_list_tuple
    have z2 : (vs ++ us).size ≤ sizeLine + 1 := by rw [Array.size_append]; exact c2
    wp_walk using (wpAny_updateSeq al rfl (hz := c1) (_hz' := z2)), wpAny_loadPart' al, wpAny_loadPart' at_
    exact ⟨_, rfl, hyp⟩
def rExtT (K : Frg) : V → List V → Hp → VK → Prop := fun x vs H Q => ∃ l b xs zs, x = .ref l ∧ vs = [.ref b] ∧ H l = some (.lst xs) ∧ SqT K H b zs ∧ xs.length + zs.length ≤ sizeLine ∧ Q .non (upd H l (.lst (xs ++ zs)))
theorem mt_extT {X : Cx} : MtM X "list.extend" (rExtT X.K) := by
  intro pins st σ H x vs v us Q inv rx rv hyp
  obtain ⟨l, b, xs, zs, rfl, rfl, hH, hB, hz, q⟩ := hyp
  cases rx
  obtain ⟨u, rfl, ru⟩ := rv.one
  cases ru
  obtain ⟨z, its, n, rr, hl, e⟩ := inv.lstM hH
  obtain ⟨its2, r2, ⟨⟨cls, dd, data, sl⟩, at_, hc, n2, hd⟩, hs⟩ := inv.tuple hB
  simp only at hc hd
  subst hc hd
  have hl2 : its2.length = zs.length := r2.length.symm
  have hsz : its.toArray.size + its2.toArray.size ≤ sizeLine := by rw [List.size_toArray, List.size_toArray]; omega
  have hlong : ¬ (!its.toArray.isEmpty && Builtin.List.listTooLong (its.toArray.size + its2.toArray.size)) = true := by
    rw [notLongL hsz, Bool.and_false]
    exact Bool.false_ne_true
  refine call_meets F.slot_list_extend ⟨_, e, rfl⟩ F.entry_list_extend (F.args_list_extend_2 _ _)
    (ext_tup l its.toArray n b its2.toArray n2 dd sl hlong (by rw [List.size_toArray]; omega) (by omega)) ⟨e, at_, ?_⟩
  exact ⟨.non, _, inv.lset (its' := its ++ its2) hH e (by simp) (rr.append r2) (by rw [List.length_append]; omega), rfl, q⟩
end Dn

namespace Dn
open PySem PySem.Spec PyProof.Rows L2
section
variable {K : Frg} {P : Hid} {S : Store} {H : Hp}
theorem rp_non {v : V} : Rp K P S H .non v = (v = .non) := by unfold Rp; rfl
theorem rp_bl {b : Bool} {v : V} : Rp K P S H (.bl b) v = (v = .bl b) := by unfold Rp; rfl
theorem rp_int {i : Int} {v : V} : Rp K P S H (.int i) v = (v = .int i) := by unfold Rp; rfl
theorem rp_str {x : Str} {v : V} : Rp K P S H (.str x) v = (v = .str x) := by unfold Rp; rfl
theorem rp_ty {x : String} {v : V} : Rp K P S H (.ty x) v = (v = .ty x) := by unfold Rp; rfl
theorem rp_ref {a : Addr} {v : V} : Rp K P S H (.ref a) v = (v = .ref a) := by unfold Rp; rfl
theorem rpInt {i : Int} : Rp K P S H (.int i) (.int i) := rp_int.mpr rfl
theorem rpBl {i : Bool} : Rp K P S H (.bl i) (.bl i) := rp_bl.mpr rfl
theorem rpStr {i : Str} : Rp K P S H (.str i) (.str i) := rp_str.mpr rfl
theorem rpNon : Rp K P S H .non .non := rp_non.mpr rfl
theorem rpRef {i : Addr} : Rp K P S H (.ref i) (.ref i) := rp_ref.mpr rfl
theorem rp_tup {ws : List Dt} {v : V} (h : Rp K P S H (.tup ws) v) : ∃ a xs, v = .ref a ∧ SqT K H a xs ∧ RpL K P S H ws xs := by
  unfold Rp at h
  obtain ⟨a, xs, e, f, r⟩ := h
  exact ⟨a, xs, e, sqT_of (.inl f), r⟩
theorem rp_kt {ws : List Dt} {v : V} (h : Rp K P S H (.kt ws) v) : ∃ a xs, v = .ref a ∧ KT K a xs ∧ RpL K P S H ws xs := by
  unfold Rp at h
  exact h
/-- new tuples, new frozen lists -/
theorem NQ.tup {Q : Dt → Store → Prop} {Qv : VK} (h : NQ K P S H Q Qv) (W : Wd K P S H) {ws : List Dt} {xs : List V} (r : RpL K P S H ws xs) (q : Q (.tup ws) S) {p : Addr} (hp : H p = none) : Qv (.ref p) (upd H p (.tup xs)) := by
  refine h _ _ (.tup ws) S (W.new hp) ?_ (Evo.new hp) q
  unfold Rp
  exact ⟨p, xs, rfl, Fz.new W hp, r.mono (Evo.new hp)⟩
theorem NQ.lst {Q : Dt → Store → Prop} {Qv : VK} (h : NQ K P S H Q Qv) (W : Wd K P S H) {ws : List Dt} {xs : List V} (r : RpL K P S H ws xs) (q : Q (.lst ws) S) {p : Addr} (hp : H p = none) : Qv (.ref p) (upd H p (.lst xs)) := by
  refine h _ _ (.lst ws) S (W.new hp) ?_ (Evo.new hp) q
  unfold Rp
  exact ⟨p, xs, rfl, Fz.new W hp, r.mono (Evo.new hp)⟩
theorem RpL.nilE {xs : List V} (h : RpL K P S H [] xs) : xs = [] := by unfold RpL at h; exact h
theorem RpL.nilW {ws : List Dt} (h : RpL K P S H ws []) : ws = [] := by
  have := h.length
  exact List.eq_nil_of_length_eq_zero this
theorem RpL.consE {w : Dt} {ws : List Dt} {xs : List V} (h : RpL K P S H (w :: ws) xs) : ∃ v r, xs = v :: r ∧ Rp K P S H w v ∧ RpL K P S H ws r := by unfold RpL at h; exact h
theorem RpL.one {w : Dt} {xs : List V} (h : RpL K P S H [w] xs) : ∃ v, xs = [v] ∧ Rp K P S H w v := by
  obtain ⟨v, r, e, h1, h2⟩ := h.consE
  rw [h2.nilE] at e
  exact ⟨v, e, h1⟩
theorem RpL.two {w z : Dt} {xs : List V} (h : RpL K P S H [w, z] xs) : ∃ v u, xs = [v, u] ∧ Rp K P S H w v ∧ Rp K P S H z u := by
  obtain ⟨v, r, e, h1, h2⟩ := h.consE
  obtain ⟨u, e2, h3⟩ := h2.one
  rw [e2] at e
  exact ⟨v, u, e, h1, h3⟩
/-- lists: that are changed or plain; or of the written part; lists and tuples -/
def plv (S : Store) : Dt → Option (List Dt)
  | .lst ws => some ws
  | .ref a => match S a with | some (.lst ws) => some ws | _ => none
  | _ => none
def lsv (S : Store) : Dt → Option (List Dt)
  | .lst ws => some ws
  | .kl ws => some ws
  | .ref a => match S a with | some (.lst ws) => some ws | _ => none
  | _ => none
theorem plv_of (W : Wd K P S H) {w : Dt} {v : V} {ws : List Dt} (r : Rp K P S H w v) (h : plv S w = some ws) : ∃ a xs, v = .ref a ∧ H a = some (.lst xs) ∧ RpL K P S H ws xs := by
  cases w with
  | lst us =>
    unfold Rp at r
    obtain ⟨a, xs, e, f, rl⟩ := r
    cases h
    exact ⟨a, xs, e, f.1, rl⟩
  | ref a =>
    rw [rp_ref] at r
    unfold plv at h
    dsimp only at h
    cases e : S a with
    | none => rw [e] at h; cases h
    | some o =>
      rw [e] at h
      cases o with
      | lst us =>
        cases h
        obtain ⟨xs, e2, rl⟩ := W.sim a _ e
        exact ⟨a, xs, r, e2, rl⟩
      | ins _ _ _ => cases h
      | dK _ _ => cases h
      | dT _ _ => cases h
  | _ => cases h
theorem lsv_of (W : Wd K P S H) {w : Dt} {v : V} {ws : List Dt} (r : Rp K P S H w v) (h : lsv S w = some ws) : ∃ a xs, v = .ref a ∧ SqL K H a xs ∧ RpL K P S H ws xs := by
  cases w with
  | kl us =>
    unfold Rp at r
    obtain ⟨a, xs, e, f, rl⟩ := r
    cases h
    exact ⟨a, xs, e, sqK_of f, rl⟩
  | lst us =>
    obtain ⟨a, xs, e, f, rl⟩ := plv_of W r (show plv S (.lst us) = some ws from h)
    exact ⟨a, xs, e, SqL.of f, rl⟩
  | ref a =>
    obtain ⟨a, xs, e, f, rl⟩ := plv_of W r (show plv S (.ref a) = some ws from h)
    exact ⟨a, xs, e, SqL.of f, rl⟩
  | _ => cases h
/-! ### arithmetic -/
def pyAdd : Op2
  | .int i, .int j, S, Q => Q (.int (i + j)) S
  | .str x, .str y, S, Q => x.length + y.length ≤ sizeLine ∧ Q (.str (x ++ y)) S
  | .tup x, .tup y, S, Q => x.length + y.length ≤ sizeLine ∧ Q (.tup (x ++ y)) S
  | x, y, S, Q => match plv S x, plv S y with
    | some a, some b => a.length + b.length ≤ sizeLine ∧ Q (.lst (a ++ b)) S
    | _, _ => False
def pySub : Op2
  | .int i, .int j, S, Q => Q (.int (i - j)) S
  | _, _, _, _ => False
def mulC (i j : Int) : Prop := (-(2 ^ 64) < i ∧ i < 2 ^ 64) ∨ (-(2 ^ 64) < j ∧ j < 2 ^ 64) ∨ i.natAbs.log2 + j.natAbs.log2 < 1000000
def pyMul : Op2
  | .int i, .int j, S, Q => mulC i j ∧ Q (.int (i * j)) S
  | .tup x, .int k, S, Q => x ≠ [] ∧ 0 ≤ k ∧ k ≤ 1000 ∧ x.length ≤ 1000 ∧ Q (.tup (List.replicate k.toNat x).flatten) S
  | x, .int k, S, Q => match plv S x with
    | some a => 0 ≤ k ∧ k < 2 ^ 63 ∧ a.length * k.toNat ≤ sizeLine ∧ Q (.lst (List.replicate k.toNat a).flatten) S
    | _ => False
  | _, _, _, _ => False
def pyMod : Op2
  | .int i, .int j, S, Q => 0 < j ∧ Q (.int (i % j)) S
  | _, _, _, _ => False
def pyFdiv : Op2
  | .int i, .int j, S, Q => (0 < j ∧ j.natAbs.log2 < 9000) ∧ Q (.int (i / j)) S
  | _, _, _, _ => False
def pyPow : Op2
  | .int i, .int j, S, Q => (0 ≤ j ∧ j ≤ 1000000 ∧ i.natAbs < 2 ^ 64) ∧ Q (.int (i ^ j.toNat)) S
  | _, _, _, _ => False
def pyNeg : Op1
  | .int i, S, Q => Q (.int (-i)) S
  | _, _, _ => False
theorem RpL.flat {ws : List Dt} {xs : List V} (r : RpL K P S H ws xs) : ∀ n : Nat, RpL K P S H (List.replicate n ws).flatten (List.replicate n xs).flatten
  | 0 => RpL.nil
  | n + 1 => by
    rw [List.replicate_succ, List.replicate_succ, List.flatten_cons, List.flatten_cons]
    exact r.append (RpL.flat r n)
end
section
variable {X : Cx} {E : WX}
theorem o_add : OpR X (binaryOp .Add) (rd2 X.K pyAdd) := by
  intro pins s σ H x y v u Qv I rx ry h
  obtain ⟨P, S, w, z, Q, W, r1, r2, g, nq⟩ := h
  unfold pyAdd at g
  split at g
  · rename_i i j
    rw [rp_int] at r1 r2
    exact op_add pins s σ H x y v u Qv I rx ry ⟨i, j, r1, r2, nq.now W rpInt g⟩
  · rename_i i j
    rw [rp_str] at r1 r2
    exact op_add_str pins s σ H x y v u Qv I rx ry ⟨i, j, r1, r2, g.1, nq.now W rpStr g.2⟩
  · rename_i i j
    obtain ⟨a, xs, rfl, h1, rl1⟩ := rp_tup r1
    obtain ⟨b, ys, rfl, h2, rl2⟩ := rp_tup r2
    refine op_catA pins s σ H _ _ v u Qv I rx ry ⟨a, b, xs, ys, rfl, rfl, h1, h2, by rw [← rl1.length, ← rl2.length]; exact g.1, fun e => ?_, fun e1 e2 => ?_, fun e1 e2 p hp => ?_⟩
    · subst e
      have e3 := rl1.nilW
      subst e3
      exact nq.now W r2 g.2
    · subst e2
      have e3 := rl2.nilW
      subst e3
      rw [List.append_nil] at g
      exact nq.now W r1 g.2
    · exact nq.tup W (rl1.append rl2) g.2 hp
  · split at g
    · rename_i a b ea eb
      obtain ⟨p, xs, rfl, h1, rl1⟩ := plv_of W r1 ea
      obtain ⟨q, ys, rfl, h2, rl2⟩ := plv_of W r2 eb
      exact op_cat pins s σ H _ _ v u Qv I rx ry ⟨p, q, xs, ys, rfl, rfl, h1, h2, by rw [← rl1.length, ← rl2.length]; exact g.1, fun p hp => nq.lst W (rl1.append rl2) g.2 hp⟩
    · exact g.elim
theorem o_sub : OpR X (binaryOp .Sub) (rd2 X.K pySub) := by
  intro pins s σ H x y v u Qv I rx ry h
  obtain ⟨P, S, w, z, Q, W, r1, r2, g, nq⟩ := h
  unfold pySub at g
  split at g
  · rename_i i j
    rw [rp_int] at r1 r2
    exact op_sub pins s σ H x y v u Qv I rx ry ⟨i, j, r1, r2, nq.now W rpInt g⟩
  · exact g.elim
theorem o_mul : OpR X (binaryOp .Mult) (rd2 X.K pyMul) := by
  intro pins s σ H x y v u Qv I rx ry h
  obtain ⟨P, S, w, z, Q, W, r1, r2, g, nq⟩ := h
  unfold pyMul at g
  split at g
  · rename_i i j
    rw [rp_int] at r1 r2
    rcases g.1 with c | c | c
    · exact op_mul pins s σ H x y v u Qv I rx ry ⟨i, j, r1, r2, .inl c, nq.now W rpInt g.2⟩
    · exact op_mul pins s σ H x y v u Qv I rx ry ⟨i, j, r1, r2, .inr c, nq.now W rpInt g.2⟩
    · exact op_mulW pins s σ H x y v u Qv I rx ry ⟨i, j, r1, r2, c, nq.now W rpInt g.2⟩
  · rename_i ws k
    obtain ⟨a, xs, rfl, h1, rl1⟩ := rp_tup r1
    rw [rp_int] at r2
    obtain ⟨g1, g2, g3, g4, g5⟩ := g
    have hne : xs ≠ [] := fun e => g1 (by subst e; exact rl1.nilW)
    by_cases k0 : k = 0
    · subst k0
      exact op_times01 pins s σ H _ _ v u Qv I rx ry ⟨a, 0, xs, rfl, r2, h1, hne, .inr ⟨rfl, fun p hp => nq.tup W RpL.nil g5 hp⟩⟩
    · by_cases k1 : k = 1
      · subst k1
        refine op_times01 pins s σ H _ _ v u Qv I rx ry ⟨a, 1, xs, rfl, r2, h1, hne, .inl ⟨rfl, ?_⟩⟩
        have e1 : (List.replicate (1 : Int).toNat ws).flatten = ws := by simp
        rw [e1] at g5
        exact nq.now W (by assumption) g5
      · exact op_repT pins s σ H _ _ v u Qv I rx ry ⟨a, k, xs, rfl, r2, h1, hne, by omega, g3, by rw [← rl1.length]; exact g4, fun p hp => nq.tup W (rl1.flat _) g5 hp⟩
  · rename_i k hne hne2
    split at g
    · rename_i a ea
      obtain ⟨p, xs, rfl, h1, rl1⟩ := plv_of W r1 ea
      rw [rp_int] at r2
      obtain ⟨g1, g2, g3, g4⟩ := g
      exact op_rep pins s σ H _ _ v u Qv I rx ry ⟨p, _, xs, rfl, r2, h1, by omega, g2, by rw [← rl1.length]; exact g3, fun p hp => nq.lst W (rl1.flat _) g4 hp⟩
    · exact g.elim
  · exact g.elim
theorem o_mod : OpR X (binaryOp .Mod) (rd2 X.K pyMod) := by
  intro pins s σ H x y v u Qv I rx ry h
  obtain ⟨P, S, w, z, Q, W, r1, r2, g, nq⟩ := h
  unfold pyMod at g
  split at g
  · rename_i i j
    rw [rp_int] at r1 r2
    exact op_mod pins s σ H x y v u Qv I rx ry ⟨i, j, r1, r2, g.1, nq.now W rpInt g.2⟩
  · exact g.elim
theorem o_fdiv : OpR X (binaryOp .FloorDiv) (rd2 X.K pyFdiv) := by
  intro pins s σ H x y v u Qv I rx ry h
  obtain ⟨P, S, w, z, Q, W, r1, r2, g, nq⟩ := h
  unfold pyFdiv at g
  split at g
  · rename_i i j
    rw [rp_int] at r1 r2
    exact op_fdivW pins s σ H x y v u Qv I rx ry ⟨i, j, r1, r2, g.1, nq.now W rpInt g.2⟩
  · exact g.elim
theorem o_pow : OpR X (binaryOp .Pow) (rd2 X.K pyPow) := by
  intro pins s σ H x y v u Qv I rx ry h
  obtain ⟨P, S, w, z, Q, W, r1, r2, g, nq⟩ := h
  unfold pyPow at g
  split at g
  · rename_i i j
    rw [rp_int] at r1 r2
    exact op_pow pins s σ H x y v u Qv I rx ry ⟨i, j, r1, r2, g.1, nq.now W rpInt g.2⟩
  · exact g.elim
theorem o_neg : UnR X (unaryOp .USub) (rd1 X.K pyNeg) := by
  intro pins s σ H x v Qv I rx h
  obtain ⟨P, S, w, Q, W, r1, g, nq⟩ := h
  unfold pyNeg at g
  split at g
  · rename_i i
    rw [rp_int] at r1
    exact un_neg pins s σ H x v Qv I rx ⟨i, r1, nq.now W rpInt g⟩
  · exact g.elim
/-! ### comparisons -/
def pyRel (p : Int → Int → Bool) : Op2
  | .int i, .int j, S, Q => Q (.bl (p i j)) S
  | _, _, _, _ => False
def pyLt : Op2
  | .int i, .int j, S, Q => Q (.bl (decide (i < j))) S
  | _, _, _, _ => False
def pyLe : Op2
  | .int i, .int j, S, Q => Q (.bl (decide (i ≤ j))) S
  | _, _, _, _ => False
def pyGt : Op2
  | .int i, .int j, S, Q => Q (.bl (decide (j < i))) S
  | _, _, _, _ => False
def pyGe : Op2
  | .int i, .int j, S, Q => Q (.bl (decide (j ≤ i))) S
  | _, _, _, _ => False
theorem o_rel {f : Value → Value → Sem Value} {p : Int → Int → Bool} (h : OpR X f (rI0 fun i j => .bl (p i j))) : OpR X f (rd2 X.K (pyRel p)) := by
  intro pins s σ H x y v u Qv I rx ry q
  obtain ⟨P, S, w, z, Q, W, r1, r2, g, nq⟩ := q
  unfold pyRel at g
  split at g
  · rename_i i j
    rw [rp_int] at r1 r2
    exact h pins s σ H x y v u Qv I rx ry ⟨i, j, r1, r2, nq.now W rpBl g⟩
  · exact g.elim
theorem o_lt : OpR X (compareOp .Lt) (rd2 X.K pyLt) := o_rel op_lt
theorem o_le : OpR X (compareOp .LtE) (rd2 X.K pyLe) := o_rel op_le
theorem o_gt : OpR X (compareOp .Gt) (rd2 X.K pyGt) := o_rel op_gt
theorem o_ge : OpR X (compareOp .GtE) (rd2 X.K pyGe) := o_rel op_ge
/-- is: None, True, False -/
def isNon : Dt → Bool
  | .non => true
  | _ => false
def isBlW : Dt → Bool → Bool
  | .bl a, b => a == b
  | _, _ => false
def pyIs : Op2
  | x, .non, S, Q => Q (.bl (isNon x)) S
  | x, .bl b, S, Q => Q (.bl (isBlW x b)) S
  | _, _, _, _ => False
def pyIsNot : Op2
  | x, .non, S, Q => Q (.bl (!isNon x)) S
  | x, .bl b, S, Q => Q (.bl (!isBlW x b)) S
  | _, _, _, _ => False
theorem rp_isnon {K : Frg} {P : Hid} {S : Store} {H : Hp} {w : Dt} {v : V} (r : Rp K P S H w v) : decide (v = .non) = isNon w := by
  cases w with
  | non => rw [rp_non] at r; subst r; rfl
  | bl b => rw [rp_bl] at r; subst r; rfl
  | int b => rw [rp_int] at r; subst r; rfl
  | str b => rw [rp_str] at r; subst r; rfl
  | ty b => rw [rp_ty] at r; subst r; rfl
  | ref b => rw [rp_ref] at r; subst r; rfl
  | tup ws => unfold Rp at r; obtain ⟨a, xs, rfl, _⟩ := r; rfl
  | lst ws => unfold Rp at r; obtain ⟨a, xs, rfl, _⟩ := r; rfl
  | kl ws => unfold Rp at r; obtain ⟨a, xs, rfl, _⟩ := r; rfl
  | ins C ns ws => unfold Rp at r; obtain ⟨a, dx, xs, rfl, _⟩ := r; rfl
  | dK ks ws => unfold Rp at r; obtain ⟨a, xs, rfl, _⟩ := r; rfl
  | dT ks ws => unfold Rp at r; obtain ⟨a, xs, rfl, _⟩ := r; rfl
  | exn a dd ns ws => unfold Rp at r; obtain ⟨xs, rfl, _⟩ := r; rfl
  | kt ws => unfold Rp at r; obtain ⟨a, xs, rfl, _⟩ := r; rfl
theorem rp_isbl {K : Frg} {P : Hid} {S : Store} {H : Hp} {w : Dt} {v : V} {b : Bool} (r : Rp K P S H w v) : decide (v = .bl b) = isBlW w b := by
  cases w with
  | bl a => rw [rp_bl] at r; subst r; cases a <;> cases b <;> rfl
  | non => rw [rp_non] at r; subst r; rfl
  | int b => rw [rp_int] at r; subst r; rfl
  | str b => rw [rp_str] at r; subst r; rfl
  | ty b => rw [rp_ty] at r; subst r; rfl
  | ref b => rw [rp_ref] at r; subst r; rfl
  | tup ws => unfold Rp at r; obtain ⟨a, xs, rfl, _⟩ := r; rfl
  | lst ws => unfold Rp at r; obtain ⟨a, xs, rfl, _⟩ := r; rfl
  | kl ws => unfold Rp at r; obtain ⟨a, xs, rfl, _⟩ := r; rfl
  | ins C ns ws => unfold Rp at r; obtain ⟨a, dx, xs, rfl, _⟩ := r; rfl
  | dK ks ws => unfold Rp at r; obtain ⟨a, xs, rfl, _⟩ := r; rfl
  | dT ks ws => unfold Rp at r; obtain ⟨a, xs, rfl, _⟩ := r; rfl
  | exn a dd ns ws => unfold Rp at r; obtain ⟨xs, rfl, _⟩ := r; rfl
  | kt ws => unfold Rp at r; obtain ⟨a, xs, rfl, _⟩ := r; rfl
theorem is_bool {M : Model} {A : Around} {E : Value → Shared → Prop} {s : Shared} {Q : Value → Shared → Prop} {x : V} {v : Value} {b : Bool} (rx : L2.RelV x v) (q : Q (.bool (decide (x = .bl b))) s) : wpAny M A (compareOp .Is v (.bool b)) Q E s := by
  cases x with
  | bl a =>
    cases rx
    by_cases e : a = b
    · subst e
      exact wpAny_is_self rfl (by simpa using q)
    · exact wpAny_is_other rfl (fun z => e (Value.bool.inj z)) (by simpa [e] using q)
  | non => cases rx; exact wpAny_is_other rfl (fun z => nomatch z) q
  | int i => obtain ⟨t, rfl⟩ := rx; exact wpAny_is_other rfl (fun z => nomatch z) q
  | str i => obtain ⟨t, rfl⟩ := rx; exact wpAny_is_other rfl (fun z => nomatch z) q
  | byt i => obtain ⟨t, rfl⟩ := rx; exact wpAny_is_other rfl (fun z => nomatch z) q
  | flt i => obtain ⟨t, rfl⟩ := rx; exact wpAny_is_other rfl (fun z => nomatch z) q
  | ref a => cases rx; exact wpAny_is_other rfl (fun z => nomatch z) q
  | ty a => cases rx; exact wpAny_is_other rfl (fun z => nomatch z) q
theorem isnot_bool {M : Model} {A : Around} {E : Value → Shared → Prop} {s : Shared} {Q : Value → Shared → Prop} {x : V} {v : Value} {b : Bool} (rx : L2.RelV x v) (q : Q (.bool (!decide (x = .bl b))) s) : wpAny M A (compareOp .IsNot v (.bool b)) Q E s := by
  cases x with
  | bl a =>
    cases rx
    by_cases e : a = b
    · subst e
      exact wpAny_isNot_self rfl (by simpa using q)
    · exact wpAny_isNot_other rfl (fun z => e (Value.bool.inj z)) (by simpa [e] using q)
  | non => cases rx; exact wpAny_isNot_other rfl (fun z => nomatch z) q
  | int i => obtain ⟨t, rfl⟩ := rx; exact wpAny_isNot_other rfl (fun z => nomatch z) q
  | str i => obtain ⟨t, rfl⟩ := rx; exact wpAny_isNot_other rfl (fun z => nomatch z) q
  | byt i => obtain ⟨t, rfl⟩ := rx; exact wpAny_isNot_other rfl (fun z => nomatch z) q
  | flt i => obtain ⟨t, rfl⟩ := rx; exact wpAny_isNot_other rfl (fun z => nomatch z) q
  | ref a => cases rx; exact wpAny_isNot_other rfl (fun z => nomatch z) q
  | ty a => cases rx; exact wpAny_isNot_other rfl (fun z => nomatch z) q
theorem o_is : OpR X (compareOp .Is) (rd2 X.K pyIs) := by
  intro pins s σ H x y v u Qv I rx ry q
  obtain ⟨P, S, w, z, Q, W, r1, r2, g, nq⟩ := q
  unfold pyIs at g
  split at g
  · rw [rp_non] at r2
    refine op_isN pins s σ H x y v u Qv I rx ry ⟨r2, ?_⟩
    rw [rp_isnon r1]
    exact nq.now W rpBl g
  · rw [rp_bl] at r2
    subst r2
    cases ry
    refine is_bool rx ?_
    rw [rp_isbl r1]
    exact ⟨.bl _, H, I, rfl, nq.now W rpBl g⟩
  · exact g.elim
theorem o_isnot : OpR X (compareOp .IsNot) (rd2 X.K pyIsNot) := by
  intro pins s σ H x y v u Qv I rx ry q
  obtain ⟨P, S, w, z, Q, W, r1, r2, g, nq⟩ := q
  unfold pyIsNot at g
  split at g
  · rw [rp_non] at r2
    refine op_notN pins s σ H x y v u Qv I rx ry ⟨r2, ?_⟩
    rw [rp_isnon r1]
    exact nq.now W rpBl g
  · rw [rp_bl] at r2
    subst r2
    cases ry
    refine isnot_bool rx ?_
    rw [rp_isbl r1]
    exact ⟨.bl _, H, I, rfl, nq.now W rpBl g⟩
  · exact g.elim
end
/-- plain data, for == -/
def toP : Dt → Option PyData
  | .non => some .none
  | .bl b => some (.bool b)
  | .int i => some (.int i)
  | .str x => some (.str x)
  | .tup ws => (toPL ws).map .tuple
  | .lst ws => (toPL ws).map .list
  | .kl ws => (toPL ws).map .list
  | _ => none
where toPL : List Dt → Option (List PyData)
  | [] => some []
  | w :: ws => match toP w, toPL ws with
    | some d, some ds => some (d :: ds)
    | _, _ => none
section
variable {K : Frg} {P : Hid} {S : Store} {H : Hp}
mutual
theorem toP_of : ∀ (w : Dt) (v : V) (d : PyData), Rp K P S H w v → toP w = some d → Dp K H v d
  | .non, v, d, r, e => by rw [rp_non] at r; subst r; unfold toP at e; cases e; exact .non
  | .bl b, v, d, r, e => by rw [rp_bl] at r; subst r; unfold toP at e; cases e; exact .bl b
  | .int b, v, d, r, e => by rw [rp_int] at r; subst r; unfold toP at e; cases e; exact .int b
  | .str b, v, d, r, e => by rw [rp_str] at r; subst r; unfold toP at e; cases e; exact .str b
  | .tup ws, v, d, r, e => by
    obtain ⟨a, xs, rfl, h1, rl⟩ := rp_tup r
    unfold toP at e
    cases q : toP.toPL ws with
    | none => rw [q] at e; cases e
    | some ds =>
      rw [q] at e
      cases e
      exact .tup h1 (toPL_of ws xs ds rl q)
  | .lst ws, v, d, r, e => by
    unfold Rp at r
    obtain ⟨a, xs, rfl, h1, rl⟩ := r
    unfold toP at e
    cases q : toP.toPL ws with
    | none => rw [q] at e; cases e
    | some ds =>
      rw [q] at e
      cases e
      exact .lst h1.sqL (toPL_of ws xs ds rl q)
  | .kl ws, v, d, r, e => by
    unfold Rp at r
    obtain ⟨a, xs, rfl, h1, rl⟩ := r
    unfold toP at e
    cases q : toP.toPL ws with
    | none => rw [q] at e; cases e
    | some ds =>
      rw [q] at e
      cases e
      exact .lst (sqK_of h1) (toPL_of ws xs ds rl q)
  | .ty _, v, d, r, e => by unfold toP at e; cases e
  | .ref _, v, d, r, e => by unfold toP at e; cases e
  | .ins _ _ _, v, d, r, e => by unfold toP at e; cases e
  | .dK _ _, v, d, r, e => by unfold toP at e; cases e
  | .dT _ _, v, d, r, e => by unfold toP at e; cases e
  | .exn _ _ _ _, v, d, r, e => by unfold toP at e; cases e
  | .kt _, v, d, r, e => by unfold toP at e; cases e
theorem toPL_of : ∀ (ws : List Dt) (xs : List V) (ds : List PyData), RpL K P S H ws xs → toP.toPL ws = some ds → DpAll K H xs ds
  | [], xs, ds, r, e => by rw [r.nilE]; unfold toP.toPL at e; cases e; exact .nil
  | w :: ws, xs, ds, r, e => by
    obtain ⟨v, t, rfl, h1, h2⟩ := r.consE
    unfold toP.toPL at e
    cases q1 : toP w with
    | none => rw [q1] at e; cases e
    | some d =>
      cases q2 : toP.toPL ws with
      | none => rw [q1, q2] at e; cases e
      | some es =>
        rw [q1, q2] at e
        cases e
        exact .cons (toP_of w v d h1 q1) (toPL_of ws t es h2 q2)
end
end
mutual
/-- == of plain data -/
def eqD : Dt → Dt → Bool
  | .non, .non => true
  | .bl a, .bl b => a == b
  | .bl a, .int j => decide ((if a then (1 : Int) else 0) = j)
  | .int i, .bl b => decide (i = (if b then (1 : Int) else 0))
  | .int i, .int j => decide (i = j)
  | .str x, .str y => decide (x = y)
  | .tup as, .tup bs => eqDL as bs
  | .lst as, .lst bs => eqDL as bs
  | .lst as, .kl bs => eqDL as bs
  | .kl as, .lst bs => eqDL as bs
  | .kl as, .kl bs => eqDL as bs
  | _, _ => false
def eqDL : List Dt → List Dt → Bool
  | [], [] => true
  | a :: as, b :: bs => eqD a b && eqDL as bs
  | [], _ :: _ => false
  | _ :: _, [] => false
end
/-- plain, at most k deep -/
def fl : Nat → Dt → Bool
  | _, .non | _, .bl _ | _, .int _ => true
  | _, .str x => (PyData.str x).canLay0
  | k + 1, .tup ws | k + 1, .lst ws | k + 1, .kl ws => ws.all (fl k)
  | _, _ => false
theorem toPL_nil : toP.toPL [] = some [] := by unfold toP.toPL; rfl
theorem fl_list {k : Nat} (h : ∀ w, fl k w = true → ∃ d, toP w = some d ∧ d.canLay0 = true ∧ d.depth ≤ k) : ∀ ws : List Dt, ws.all (fl k) = true → ∃ ds, toP.toPL ws = some ds ∧ PyData.canLayAll0 ds = true ∧ PyData.depthAll ds ≤ k
  | [], _ => ⟨[], toPL_nil, by unfold PyData.canLayAll0; rfl, by unfold PyData.depthAll; omega⟩
  | w :: ws, q => by
    rw [List.all_cons, Bool.and_eq_true] at q
    obtain ⟨d, e1, c1, d1⟩ := h w q.1
    obtain ⟨ds, e2, c2, d2⟩ := fl_list h ws q.2
    refine ⟨d :: ds, by unfold toP.toPL; rw [e1, e2], ?_, ?_⟩
    · unfold PyData.canLayAll0
      rw [c1, c2]
      rfl
    · unfold PyData.depthAll
      omega
theorem fl_toP : ∀ (k : Nat) (w : Dt), fl k w = true → ∃ d, toP w = some d ∧ d.canLay0 = true ∧ d.depth ≤ k
  | _, .non, _ => ⟨.none, by unfold toP; rfl, by unfold PyData.canLay0; rfl, by unfold PyData.depth; omega⟩
  | _, .bl b, _ => ⟨.bool b, by unfold toP; rfl, by unfold PyData.canLay0; rfl, by unfold PyData.depth; omega⟩
  | _, .int b, _ => ⟨.int b, by unfold toP; rfl, by unfold PyData.canLay0; rfl, by unfold PyData.depth; omega⟩
  | k, .str b, h => ⟨.str b, by unfold toP; rfl, by cases k <;> exact h, by unfold PyData.depth; omega⟩
  | 0, .tup ws, h => by cases h
  | 0, .lst ws, h => by cases h
  | 0, .kl ws, h => by cases h
  | k + 1, .tup ws, h => by
    obtain ⟨ds, e, c, d⟩ := fl_list (fl_toP k) ws h
    refine ⟨.tuple ds, by unfold toP; rw [e]; rfl, by unfold PyData.canLay0; exact c, by unfold PyData.depth; omega⟩
  | k + 1, .lst ws, h => by
    obtain ⟨ds, e, c, d⟩ := fl_list (fl_toP k) ws h
    refine ⟨.list ds, by unfold toP; rw [e]; rfl, by unfold PyData.canLay0; exact c, by unfold PyData.depth; omega⟩
  | k + 1, .kl ws, h => by
    obtain ⟨ds, e, c, d⟩ := fl_list (fl_toP k) ws h
    refine ⟨.list ds, by unfold toP; rw [e]; rfl, by unfold PyData.canLay0; exact c, by unfold PyData.depth; omega⟩
  | 0, .ty _, h | 0, .ref _, h | 0, .ins _ _ _, h | 0, .dK _ _, h | 0, .dT _ _, h | 0, .exn _ _ _ _, h | 0, .kt _, h => by cases h
  | _ + 1, .ty _, h | _ + 1, .ref _, h | _ + 1, .ins _ _ _, h | _ + 1, .dK _ _, h | _ + 1, .dT _ _, h | _ + 1, .exn _ _ _ _, h | _ + 1, .kt _, h => by cases h
theorem toP_tup {ws : List Dt} {d : PyData} (h : toP (.tup ws) = some d) : ∃ ds, toP.toPL ws = some ds ∧ d = .tuple ds := by
  unfold toP at h
  cases e : toP.toPL ws with
  | none => rw [e] at h; cases h
  | some ds => rw [e] at h; cases h; exact ⟨ds, rfl, rfl⟩
theorem toP_lst {ws : List Dt} {d : PyData} (h : toP (.lst ws) = some d ∨ toP (.kl ws) = some d) : ∃ ds, toP.toPL ws = some ds ∧ d = .list ds := by
  rcases h with h | h <;>
  · unfold toP at h
    cases e : toP.toPL ws with
    | none => rw [e] at h; cases h
    | some ds => rw [e] at h; cases h; exact ⟨ds, rfl, rfl⟩
theorem toPL_cons {w : Dt} {ws : List Dt} {ds : List PyData} (h : toP.toPL (w :: ws) = some ds) : ∃ d es, toP w = some d ∧ toP.toPL ws = some es ∧ ds = d :: es := by
  unfold toP.toPL at h
  cases e1 : toP w with
  | none => rw [e1] at h; cases h
  | some d =>
    cases e2 : toP.toPL ws with
    | none => rw [e1, e2] at h; cases h
    | some es => rw [e1, e2] at h; cases h; exact ⟨d, es, rfl, rfl, rfl⟩
theorem eqv_list {n : Nat} (ih : ∀ (a b : Dt) (d e : PyData), sizeOf a < n → toP a = some d → toP b = some e → PyData.eqv d e = eqD a b) : ∀ (as bs : List Dt) (ds es : List PyData), sizeOf as < n → toP.toPL as = some ds → toP.toPL bs = some es → PyData.eqvAll ds es = eqDL as bs
  | [], [], ds, es, _, h1, h2 => by
    rw [toPL_nil] at h1 h2
    cases h1; cases h2
    unfold PyData.eqvAll eqDL
    rfl
  | [], b :: bs, ds, es, _, h1, h2 => by
    rw [toPL_nil] at h1
    cases h1
    obtain ⟨d, es, _, _, rfl⟩ := toPL_cons h2
    unfold PyData.eqvAll eqDL
    rfl
  | a :: as, [], ds, es, _, h1, h2 => by
    rw [toPL_nil] at h2
    cases h2
    obtain ⟨d, es, _, _, rfl⟩ := toPL_cons h1
    unfold PyData.eqvAll eqDL
    rfl
  | a :: as, b :: bs, ds, es, hs, h1, h2 => by
    obtain ⟨d, ds, e1, e2, rfl⟩ := toPL_cons h1
    obtain ⟨e, es, f1, f2, rfl⟩ := toPL_cons h2
    rw [List.cons.sizeOf_spec] at hs
    unfold PyData.eqvAll eqDL
    rw [ih a b d e (by omega) e1 f1, eqv_list ih as bs ds es (by omega) e2 f2]
theorem eqv_eqD : ∀ (n : Nat) (a b : Dt) (d e : PyData), sizeOf a < n → toP a = some d → toP b = some e → PyData.eqv d e = eqD a b
  | 0, a, b, d, e, h, _, _ => absurd h (Nat.not_lt_zero _)
  | n + 1, a, b, d, e, hs, h1, h2 => by
    cases a <;> first | (unfold toP at h1; cases h1; done) | skip
    all_goals cases b <;> first | (unfold toP at h2; cases h2; done) | skip
    all_goals first
      | (unfold toP at h1 h2; cases h1; cases h2; unfold PyData.eqv eqD; first | rfl | simp [BEq.beq] | (rename_i x y; by_cases z : x = y <;> simp [z]))
      | (obtain ⟨ds, q1, rfl⟩ := toP_tup h1; obtain ⟨es, q2, rfl⟩ := toP_tup h2; unfold PyData.eqv eqD; rename_i as bs; exact eqv_list (n := n) (fun a b d e z => eqv_eqD n a b d e z) as bs ds es (by simp only [Dt.tup.sizeOf_spec] at hs; omega) q1 q2)
      | (obtain ⟨ds, q1, rfl⟩ := toP_lst (.inl h1); obtain ⟨es, q2, rfl⟩ := toP_lst (.inl h2); unfold PyData.eqv eqD; rename_i as bs; exact eqv_list (n := n) (fun a b d e z => eqv_eqD n a b d e z) as bs ds es (by simp only [Dt.lst.sizeOf_spec] at hs; omega) q1 q2)
      | (obtain ⟨ds, q1, rfl⟩ := toP_lst (.inl h1); obtain ⟨es, q2, rfl⟩ := toP_lst (.inr h2); unfold PyData.eqv eqD; rename_i as bs; exact eqv_list (n := n) (fun a b d e z => eqv_eqD n a b d e z) as bs ds es (by simp only [Dt.lst.sizeOf_spec] at hs; omega) q1 q2)
      | (obtain ⟨ds, q1, rfl⟩ := toP_lst (.inr h1); obtain ⟨es, q2, rfl⟩ := toP_lst (.inl h2); unfold PyData.eqv eqD; rename_i as bs; exact eqv_list (n := n) (fun a b d e z => eqv_eqD n a b d e z) as bs ds es (by simp only [Dt.kl.sizeOf_spec] at hs; omega) q1 q2)
      | (obtain ⟨ds, q1, rfl⟩ := toP_lst (.inr h1); obtain ⟨es, q2, rfl⟩ := toP_lst (.inr h2); unfold PyData.eqv eqD; rename_i as bs; exact eqv_list (n := n) (fun a b d e z => eqv_eqD n a b d e z) as bs ds es (by simp only [Dt.kl.sizeOf_spec] at hs; omega) q1 q2)
      | (obtain ⟨ds, q1, rfl⟩ := toP_tup h1; unfold toP at h2; cases h2; unfold PyData.eqv eqD; rfl)
      | (obtain ⟨ds, q1, rfl⟩ := toP_tup h2; unfold toP at h1; cases h1; unfold PyData.eqv eqD; rfl)
      | (obtain ⟨ds, q1, rfl⟩ := toP_lst (.inl h1); unfold toP at h2; cases h2; unfold PyData.eqv eqD; rfl)
      | (obtain ⟨ds, q1, rfl⟩ := toP_lst (.inr h1); unfold toP at h2; cases h2; unfold PyData.eqv eqD; rfl)
      | (obtain ⟨ds, q1, rfl⟩ := toP_lst (.inl h2); unfold toP at h1; cases h1; unfold PyData.eqv eqD; rfl)
      | (obtain ⟨ds, q1, rfl⟩ := toP_lst (.inr h2); unfold toP at h1; cases h1; unfold PyData.eqv eqD; rfl)
      | (obtain ⟨ds, q1, rfl⟩ := toP_tup h1; obtain ⟨es, q2, rfl⟩ := toP_lst (.inl h2); unfold PyData.eqv eqD; rfl)
      | (obtain ⟨ds, q1, rfl⟩ := toP_tup h1; obtain ⟨es, q2, rfl⟩ := toP_lst (.inr h2); unfold PyData.eqv eqD; rfl)
      | (obtain ⟨ds, q1, rfl⟩ := toP_lst (.inl h1); obtain ⟨es, q2, rfl⟩ := toP_tup h2; unfold PyData.eqv eqD; rfl)
      | (obtain ⟨ds, q1, rfl⟩ := toP_lst (.inr h1); obtain ⟨es, q2, rfl⟩ := toP_tup h2; unfold PyData.eqv eqD; rfl)
def pyEq : Op2
  | .int i, .int j, S, Q => Q (.bl (decide (i = j))) S
  | .bl i, .bl j, S, Q => Q (.bl (i == j)) S
  | .str i, .str j, S, Q => Q (.bl (decide (i = j))) S
  | x, y, S, Q => fl 60 x = true ∧ fl 60 y = true ∧ Q (.bl (eqD x y)) S
theorem fl_shaped {w : Dt} (h : fl 60 w = true) : ∃ d, toP w = some d ∧ SeqAt.shaped d = true := by
  obtain ⟨d, e, c, z⟩ := fl_toP 60 w h
  exact ⟨d, e, by unfold SeqAt.shaped; rw [c, decide_eq_true (show d.depth ≤ 64 by omega)]; rfl⟩
def pyNe : Op2 := fun x y S Q => pyEq x y S (fun w S1 => match w with | .bl b => Q (.bl (!b)) S1 | _ => False)
section
variable {X : Cx} {E : WX}
theorem vbl {a b : Bool} : decide (V.bl a = V.bl b) = (a == b) := by cases a <;> cases b <;> rfl
theorem o_eq (hu : X.A.units + 64 < cLine) : OpR X (compareOp .Eq) (rd2 X.K pyEq) := by
  intro pins s σ H x y v u Qv I rx ry q
  obtain ⟨P, S, w, z, Q, W, r1, r2, g, nq⟩ := q
  unfold pyEq at g
  split at g
  · rename_i a b
    rw [rp_int] at r1 r2
    subst r1 r2
    refine op_eq pins s σ H _ _ v u Qv I rx ry ⟨rfl, ?_⟩
    rw [dec_int]
    rw [show (a == b) = decide (a = b) from by simp [BEq.beq]]
    exact nq.now W rpBl g
  · rename_i a b
    rw [rp_bl] at r1 r2
    subst r1 r2
    refine op_eq pins s σ H _ _ v u Qv I rx ry ⟨rfl, ?_⟩
    rw [vbl]
    exact nq.now W rpBl g
  · rename_i a b
    rw [rp_str] at r1 r2
    subst r1 r2
    refine op_eq pins s σ H _ _ v u Qv I rx ry ⟨rfl, ?_⟩
    rw [show decide (V.str a = V.str b) = decide (a = b) from by by_cases e : a = b <;> simp [e]]
    exact nq.now W rpBl g
  · obtain ⟨d, ed, sd⟩ := fl_shaped g.1
    obtain ⟨e, ee, se⟩ := fl_shaped g.2.1
    exact op_eqD hu pins s σ H x y v u Qv I rx ry ⟨d, e, toP_of _ _ _ r1 ed, toP_of _ _ _ r2 ee, sd, se, by rw [eqv_eqD _ _ _ d e (Nat.lt_succ_self _) ed ee]; exact nq.now W rpBl g.2.2⟩
theorem o_ne (hu : X.A.units + 64 < cLine) : OpR X (compareOp .NotEq) (rd2 X.K pyNe) := by
  intro pins s σ H x y v u Qv I rx ry q
  obtain ⟨P, S, w, z, Q, W, r1, r2, g, nq⟩ := q
  unfold pyNe pyEq at g
  split at g
  · rename_i a b
    rw [rp_int] at r1 r2
    subst r1 r2
    refine op_ne pins s σ H _ _ v u Qv I rx ry ⟨rfl, ?_⟩
    rw [dec_int]
    rw [show (a == b) = decide (a = b) from by simp [BEq.beq]]
    exact nq.now W rpBl g
  · rename_i a b
    rw [rp_bl] at r1 r2
    subst r1 r2
    refine op_ne pins s σ H _ _ v u Qv I rx ry ⟨rfl, ?_⟩
    rw [vbl]
    exact nq.now W rpBl g
  · rename_i a b
    rw [rp_str] at r1 r2
    subst r1 r2
    refine op_ne pins s σ H _ _ v u Qv I rx ry ⟨rfl, ?_⟩
    rw [show decide (V.str a = V.str b) = decide (a = b) from by by_cases e : a = b <;> simp [e]]
    exact nq.now W rpBl g
  · obtain ⟨d, ed, sd⟩ := fl_shaped g.1
    obtain ⟨e, ee, se⟩ := fl_shaped g.2.1
    exact op_neD hu pins s σ H x y v u Qv I rx ry ⟨d, e, toP_of _ _ _ r1 ed, toP_of _ _ _ r2 ee, sd, se, by rw [eqv_eqD _ _ _ d e (Nat.lt_succ_self _) ed ee]; exact nq.now W rpBl g.2.2⟩
end
end Dn

namespace Dn
open PySem PySem.Spec PyProof.Rows L2
theorem RpL.mapBl {K : Frg} {P : Hid} {S : Store} {H : Hp} : ∀ {bs : List Bool} {xs : List V}, RpL K P S H (bs.map Dt.bl) xs → xs = bs.map V.bl
  | [], xs, h => h.nilE
  | b :: bs, xs, h => by
    obtain ⟨v, r, rfl, h1, h2⟩ := RpL.consE (w := .bl b) (ws := bs.map Dt.bl) h
    rw [rp_bl] at h1
    subst h1
    rw [RpL.mapBl h2]
    rfl
theorem RpL.mapInt {K : Frg} {P : Hid} {S : Store} {H : Hp} : ∀ {bs : List Int} {xs : List V}, RpL K P S H (bs.map Dt.int) xs → xs = bs.map V.int
  | [], xs, h => h.nilE
  | b :: bs, xs, h => by
    obtain ⟨v, r, rfl, h1, h2⟩ := RpL.consE (w := .int b) (ws := bs.map Dt.int) h
    rw [rp_int] at h1
    subst h1
    rw [RpL.mapInt h2]
    rfl
theorem RpL.ofInt {K : Frg} {P : Hid} {S : Store} {H : Hp} : ∀ {bs : List Int}, RpL K P S H (bs.map Dt.int) (bs.map V.int)
  | [] => RpL.nil
  | b :: bs => RpL.cons (w := .int b) (v := .int b) rpInt RpL.ofInt
/-! ### built-in functions -/
def pyLen : OpN
  | [.str z], S, Q => z.length ≤ sizeLine ∧ Q (.int (z.length : Nat)) S
  | [.tup ws], S, Q => Q (.int (ws.length : Nat)) S
  | [.kt ws], S, Q => Q (.int (ws.length : Nat)) S
  | [x], S, Q => match lsv S x with
    | some ws => Q (.int (ws.length : Nat)) S
    | none => False
  | _, _, _ => False
def pyInt : OpN
  | [.int i], S, Q => Q (.int i) S
  | [.bl b], S, Q => Q (.int (if b then 1 else 0)) S
  | _, _, _ => False
def pyTuple : OpN
  | [.tup ws], S, Q => Q (.tup ws) S
  | [x], S, Q => match lsv S x with
    | some ws => Q (.tup ws) S
    | none => False
  | _, _, _ => False
def pyAll : OpN
  | [x], S, Q => match lsv S x with
    | some ws => ∃ bs : List Bool, ws = bs.map Dt.bl ∧ Q (.bl (bs.all id)) S
    | none => False
  | _, _, _ => False
def pyAny : OpN
  | [x], S, Q => match lsv S x with
    | some ws => ∃ bs : List Bool, ws = bs.map Dt.bl ∧ Q (.bl (bs.any id)) S
    | none => False
  | _, _, _ => False
def pySum : OpN
  | [x], S, Q => match lsv S x with
    | some ws => ∃ ns : List Int, ws = ns.map Dt.int ∧ Q (.int ns.sum) S
    | none => False
  | _, _, _ => False
def pyMin : OpN
  | [.int i, .int j], S, Q => Q (.int (if j < i then j else i)) S
  | [x], S, Q => match lsv S x with
    | some ws => ∃ ns : List Int, ws = ns.map Dt.int ∧ 0 < ns.length ∧ ∀ m, m ∈ ns → (∀ y, y ∈ ns → m ≤ y) → Q (.int m) S
    | none => False
  | _, _, _ => False
def pyMax : OpN
  | [.int i, .int j], S, Q => Q (.int (if j > i then j else i)) S
  | [x], S, Q => match lsv S x with
    | some ws => ∃ ns : List Int, ws = ns.map Dt.int ∧ 0 < ns.length ∧ ∀ m, m ∈ ns → (∀ y, y ∈ ns → y ≤ m) → Q (.int m) S
    | none => False
  | _, _, _ => False
def pyAbs : OpN
  | [.int i], S, Q => Q (.int (if i < 0 then -i else i)) S
  | _, _, _ => False
/-- what isinstance asks of built-in classes -/
def tyN (S : Store) : Dt → Option String
  | .non => some "NoneType"
  | .bl _ => some "bool"
  | .int _ => some "int"
  | .str _ => some "str"
  | .tup _ => some "tuple"
  | .kt _ => some "tuple"
  | .lst _ => some "list"
  | .kl _ => some "list"
  | .dK _ _ => some "dict"
  | .dT _ _ => some "dict"
  | .ref a => match S a with
    | some (.lst _) => some "list"
    | some (.dK _ _) => some "dict"
    | some (.dT _ _) => some "dict"
    | _ => none
  | _ => none
def pyIsi : OpN
  | [x, .ty n], S, Q => match tyN S x with
    | some t => match kitB t n with
      | some b => Q (.bl b) S
      | none => False
    | none => False
  | [x, .tup cs], S, Q => match tyN S x with
    | some t => ∃ (ns : List String) (bs : List Bool), cs = ns.map Dt.ty ∧ ns.map (kitB t) = bs.map some ∧ Q (.bl (bs.any id)) S
    | none => False
  | _, _, _ => False
section
variable {K : Frg} {P : Hid} {S : Store} {H : Hp}
theorem tyN_of (W : Wd K P S H) {w : Dt} {v : V} {t : String} (r : Rp K P S H w v) (h : tyN S w = some t) : TyX K H v (.type t) := by
  cases w with
  | non => rw [rp_non] at r; subst r; cases h; exact .base .non
  | bl b => rw [rp_bl] at r; subst r; cases h; exact .base (.bl b)
  | int b => rw [rp_int] at r; subst r; cases h; exact .base (.int b)
  | str b => rw [rp_str] at r; subst r; cases h; exact .base (.str b)
  | tup ws =>
    unfold Rp at r
    obtain ⟨a, xs, rfl, f, _⟩ := r
    cases h
    exact .base (.tup f.1)
  | kt ws =>
    unfold Rp at r
    obtain ⟨a, xs, rfl, f, _⟩ := r
    cases h
    rcases f with (f | ⟨o, f⟩) | ⟨o, its, n, k, c, _⟩
    · cases f
    · cases f
    · exact .kTuple k c
  | lst ws =>
    unfold Rp at r
    obtain ⟨a, xs, rfl, f, _⟩ := r
    cases h
    exact .base (.lst f.1)
  | kl ws =>
    unfold Rp at r
    obtain ⟨a, xs, rfl, f, _⟩ := r
    cases h
    rcases f with ⟨o, f⟩ | f
    · exact .base (.frz f.1)
    · rcases f with (f | ⟨o, f⟩) | ⟨o, its, n, k, c, _⟩
      · cases f
      · cases f
      · exact .kList k c
  | dK ks ws =>
    unfold Rp at r
    obtain ⟨a, xs, rfl, f, _⟩ := r
    cases h
    exact .base (.dK f.1)
  | dT ks ws =>
    unfold Rp at r
    obtain ⟨a, xs, rfl, f, _⟩ := r
    cases h
    exact .base (.dT f.1)
  | ref a =>
    rw [rp_ref] at r
    subst r
    unfold tyN at h
    dsimp only at h
    cases e : S a with
    | none => rw [e] at h; cases h
    | some o =>
      rw [e] at h
      have q := W.sim a _ e
      cases o with
      | lst us => cases h; obtain ⟨xs, e2, _⟩ := q; exact .base (.lst e2)
      | dK _ _ => cases h; obtain ⟨xs, e2, _⟩ := q; exact .base (.dK e2)
      | dT _ _ => cases h; obtain ⟨xs, e2, _⟩ := q; exact .base (.dT e2)
      | ins _ _ _ => cases h
  | ty n => cases h
  | ins _ _ _ => cases h
  | exn _ _ _ _ => cases h
end
theorem kitAny_of {K : Frg} {t : String} : ∀ {ns : List String} {bs : List Bool}, ns.map (kitB t) = bs.map some → PySem.W.kitAny K (.type t) (ns.map Value.type) = some (bs.any id) := by
  intro ns
  induction ns with
  | nil => intro bs h; cases bs with | nil => rfl | cons b bs => cases h
  | cons n ns ih =>
    intro bs h
    cases bs with
    | nil => cases h
    | cons b bs =>
      rw [List.map_cons, List.map_cons] at h
      injection h with h1 h2
      have q := ih h2
      have k : PySem.W.kitOne K (.type t) (.type n) = some b := kit_ty h1
      rw [List.map_cons]
      unfold PySem.W.kitAny
      rw [k]
      cases b with
      | true => rfl
      | false =>
        rw [List.any_cons]
        simp only [id, Bool.false_or]
        exact q
section
variable {X : Cx} {E : WX}
theorem c_len : CallR X (.builtin "len") (rdN X.K pyLen) := by
  intro pins s σ H vs us Qv I rv h
  obtain ⟨P, S, ws, Q, W, r, g, nq⟩ := h
  unfold pyLen at g
  split at g
  · obtain ⟨v, rfl, r1⟩ := r.one
    rw [rp_str] at r1
    subst r1
    exact call_len pins s σ H _ us Qv I rv ⟨_, _, rfl, ⟨g.1, rfl⟩, nq.now W rpInt g.2⟩
  · obtain ⟨v, rfl, r1⟩ := r.one
    obtain ⟨a, xs, rfl, h1, rl⟩ := rp_tup r1
    exact call_len pins s σ H _ us Qv I rv ⟨_, _, rfl, .inr ⟨xs, h1, rfl⟩, by rw [← rl.length]; exact nq.now W rpInt g⟩
  · obtain ⟨v, rfl, r1⟩ := r.one
    obtain ⟨a, xs, rfl, h1, rl⟩ := rp_kt r1
    exact call_len pins s σ H _ us Qv I rv ⟨_, _, rfl, .inr ⟨xs, h1.sq, rfl⟩, by rw [← rl.length]; exact nq.now W rpInt g⟩
  · split at g
    · rename_i ws e
      obtain ⟨v, rfl, r1⟩ := r.one
      obtain ⟨a, xs, rfl, h1, rl⟩ := lsv_of W r1 e
      exact call_len pins s σ H _ us Qv I rv ⟨_, _, rfl, .inl ⟨xs, h1, rfl⟩, by rw [← rl.length]; exact nq.now W rpInt g⟩
    · exact g.elim
  · exact g.elim
theorem c_int : CallR X (.type "int") (rdN X.K pyInt) := by
  intro pins s σ H vs us Qv I rv h
  obtain ⟨P, S, ws, Q, W, r, g, nq⟩ := h
  unfold pyInt at g
  split at g
  · obtain ⟨v, rfl, r1⟩ := r.one
    rw [rp_int] at r1
    subst r1
    exact call_int1 pins s σ H _ us Qv I rv (.inl ⟨_, rfl, nq.now W rpInt g⟩)
  · obtain ⟨v, rfl, r1⟩ := r.one
    rw [rp_bl] at r1
    subst r1
    exact call_int1 pins s σ H _ us Qv I rv (.inr ⟨_, rfl, nq.now W rpInt g⟩)
  · exact g.elim
theorem c_tuple : CallR X (.type "tuple") (rdN X.K pyTuple) := by
  intro pins s σ H vs us Qv I rv h
  obtain ⟨P, S, ws, Q, W, r, g, nq⟩ := h
  unfold pyTuple at g
  split at g
  · obtain ⟨v, rfl, r1⟩ := r.one
    obtain ⟨a, xs, rfl, h1, rl⟩ := rp_tup r1
    exact call_tuple_of pins s σ H _ us Qv I rv ⟨_, _, rfl, .inr ⟨h1, nq.now W r1 g⟩⟩
  · split at g
    · rename_i ws e
      obtain ⟨v, rfl, r1⟩ := r.one
      obtain ⟨a, xs, rfl, h1, rl⟩ := lsv_of W r1 e
      exact call_tuple_of pins s σ H _ us Qv I rv ⟨_, _, rfl, .inl ⟨h1, fun l hl => nq.tup W rl g hl⟩⟩
    · exact g.elim
  · exact g.elim
theorem c_all (hc : X.calm = true) : CallR X (.builtin "all") (rdN X.K pyAll) := by
  intro pins s σ H vs us Qv I rv h
  obtain ⟨P, S, ws, Q, W, r, g, nq⟩ := h
  unfold pyAll at g
  split at g
  · split at g
    · rename_i ws e
      obtain ⟨bs, rfl, g⟩ := g
      obtain ⟨v, rfl, r1⟩ := r.one
      obtain ⟨a, xs, rfl, h1, rl⟩ := lsv_of W r1 e
      rw [rl.mapBl] at h1
      exact cr_all hc pins s σ H _ us Qv I rv ⟨a, bs, rfl, h1, nq.now W rpBl g⟩
    · exact g.elim
  · exact g.elim
theorem c_any (hc : X.calm = true) : CallR X (.builtin "any") (rdN X.K pyAny) := by
  intro pins s σ H vs us Qv I rv h
  obtain ⟨P, S, ws, Q, W, r, g, nq⟩ := h
  unfold pyAny at g
  split at g
  · split at g
    · rename_i ws e
      obtain ⟨bs, rfl, g⟩ := g
      obtain ⟨v, rfl, r1⟩ := r.one
      obtain ⟨a, xs, rfl, h1, rl⟩ := lsv_of W r1 e
      rw [rl.mapBl] at h1
      exact cr_any hc pins s σ H _ us Qv I rv ⟨a, bs, rfl, h1, nq.now W rpBl g⟩
    · exact g.elim
  · exact g.elim
theorem c_sum (hc : X.calm = true) : CallR X (.builtin "sum") (rdN X.K pySum) := by
  intro pins s σ H vs us Qv I rv h
  obtain ⟨P, S, ws, Q, W, r, g, nq⟩ := h
  unfold pySum at g
  split at g
  · split at g
    · rename_i ws e
      obtain ⟨bs, rfl, g⟩ := g
      obtain ⟨v, rfl, r1⟩ := r.one
      obtain ⟨a, xs, rfl, h1, rl⟩ := lsv_of W r1 e
      rw [rl.mapInt] at h1
      exact cr_sum hc pins s σ H _ us Qv I rv ⟨a, bs, rfl, h1, nq.now W rpInt g⟩
    · exact g.elim
  · exact g.elim
theorem c_min (hc : X.calm = true) : CallR X (.builtin "min") (rdN X.K pyMin) := by
  intro pins s σ H vs us Qv I rv h
  obtain ⟨P, S, ws, Q, W, r, g, nq⟩ := h
  unfold pyMin at g
  split at g
  · obtain ⟨v, u, rfl, r1, r2⟩ := r.two
    rw [rp_int] at r1 r2
    subst r1 r2
    exact call_min2 hc pins s σ H _ us Qv I rv ⟨_, _, rfl, nq.now W rpInt g⟩
  · split at g
    · rename_i ws e
      obtain ⟨bs, rfl, g0, g⟩ := g
      obtain ⟨v, rfl, r1⟩ := r.one
      obtain ⟨a, xs, rfl, h1, rl⟩ := lsv_of W r1 e
      rw [rl.mapInt] at h1
      exact cr_min hc pins s σ H _ us Qv I rv ⟨a, bs, rfl, h1, g0, fun m h1 h2 => nq.now W rpInt (g m h1 h2)⟩
    · exact g.elim
  · exact g.elim
theorem c_max (hc : X.calm = true) : CallR X (.builtin "max") (rdN X.K pyMax) := by
  intro pins s σ H vs us Qv I rv h
  obtain ⟨P, S, ws, Q, W, r, g, nq⟩ := h
  unfold pyMax at g
  split at g
  · obtain ⟨v, u, rfl, r1, r2⟩ := r.two
    rw [rp_int] at r1 r2
    subst r1 r2
    exact call_max2 hc pins s σ H _ us Qv I rv ⟨_, _, rfl, nq.now W rpInt g⟩
  · split at g
    · rename_i ws e
      obtain ⟨bs, rfl, g0, g⟩ := g
      obtain ⟨v, rfl, r1⟩ := r.one
      obtain ⟨a, xs, rfl, h1, rl⟩ := lsv_of W r1 e
      rw [rl.mapInt] at h1
      exact cr_max hc pins s σ H _ us Qv I rv ⟨a, bs, rfl, h1, g0, fun m h1 h2 => nq.now W rpInt (g m h1 h2)⟩
    · exact g.elim
  · exact g.elim
theorem c_abs : CallR X (.builtin "abs") (rdN X.K pyAbs) := by
  intro pins s σ H vs us Qv I rv h
  obtain ⟨P, S, ws, Q, W, r, g, nq⟩ := h
  unfold pyAbs at g
  split at g
  · obtain ⟨v, rfl, r1⟩ := r.one
    rw [rp_int] at r1
    subst r1
    exact call_abs pins s σ H _ us Qv I rv ⟨_, rfl, nq.now W rpInt g⟩
  · exact g.elim
theorem RpL.tys {K : Frg} {P : Hid} {S : Store} {H : Hp} : ∀ {ns : List String} {xs : List V}, RpL K P S H (ns.map Dt.ty) xs → Paired ClsV xs (ns.map Value.type)
  | [], xs, h => by rw [h.nilE]; exact .nil
  | n :: ns, xs, h => by
    obtain ⟨v, r, rfl, h1, h2⟩ := RpL.consE (w := .ty n) (ws := ns.map Dt.ty) h
    rw [rp_ty] at h1
    subst h1
    exact .cons (.ty n) (RpL.tys h2)
theorem c_isi : CallR X (.builtin "isinstance") (rdN X.K pyIsi) := by
  intro pins s σ H vs us Qv I rv h
  obtain ⟨P, S, ws, Q, W, r, g, nq⟩ := h
  unfold pyIsi at g
  split at g
  · obtain ⟨v, u, rfl, r1, r2⟩ := r.two
    rw [rp_ty] at r2
    subst r2
    split at g
    · rename_i t et
      split at g
      · rename_i b eb
        exact call_isi pins s σ H _ us Qv I rv ⟨v, _, _, _, b, rfl, .ty _, tyN_of W r1 et, kit_ty eb, nq.now W rpBl g⟩
      · exact g.elim
    · exact g.elim
  · obtain ⟨v, u, rfl, r1, r2⟩ := r.two
    split at g
    · rename_i t et
      obtain ⟨ns, bs, rfl, e, g⟩ := g
      unfold Rp at r2
      obtain ⟨a, xs, rfl, f, rl⟩ := r2
      exact call_isiT pins s σ H _ us Qv I rv ⟨v, a, xs, _, _, _, rfl, f.1, rl.tys, tyN_of W r1 et, kitAny_of e, nq.now W rpBl g⟩
    · exact g.elim
  · exact g.elim
/-! ### subscripts, slices -/
def pyIx : Op2
  | .str z, .int i, S, Q => z.length ≤ sizeLine ∧ match atI z.cps.toList i with
    | some c => Q (.str ⟨#[c]⟩) S
    | none => False
  | .tup ws, .int i, S, Q => match atI ws i with
    | some w => Q w S
    | none => False
  | .kt ws, .int i, S, Q => match atI ws i with
    | some w => Q w S
    | none => False
  | x, .int i, S, Q => match lsv S x with
    | some ws => match atI ws i with
      | some w => Q w S
      | none => False
    | none => False
  | _, _, _, _ => False
theorem atI_rp {K : Frg} {P : Hid} {S : Store} {H : Hp} {ws : List Dt} {xs : List V} {i : Int} {w : Dt} (rl : RpL K P S H ws xs) (h : atI ws i = some w) : ∃ v, atI xs i = some v ∧ Rp K P S H w v := by
  unfold atI at h ⊢
  rw [← rl.length]
  cases e : ixN ws.length i with
  | none => rw [e] at h; cases h
  | some j =>
    rw [e] at h
    exact rl.get (i := j) h
theorem o_ix : IxR X (rd2 X.K pyIx) := by
  intro value slice pins s σ H x y v u Qv I rx ry h hs
  obtain ⟨P, S, w, z, Q, W, r1, r2, g, nq⟩ := h
  unfold pyIx at g
  split at g
  · rw [rp_str] at r1
    rw [rp_int] at r2
    obtain ⟨g1, g2⟩ := g
    split at g2
    · rename_i c ec
      exact ix_str value slice pins s σ H x y v u Qv I rx ry ⟨_, _, c, r1, r2, g1, ec, nq.now W rpStr g2⟩ hs
    · exact g2.elim
  · obtain ⟨a, xs, rfl, h1, rl⟩ := rp_tup r1
    rw [rp_int] at r2
    split at g
    · rename_i w ew
      obtain ⟨y2, e2, r3⟩ := atI_rp rl ew
      exact ix_tup value slice pins s σ H _ y v u Qv I rx ry ⟨a, xs, _, y2, rfl, r2, h1, e2, nq.now W r3 g⟩ hs
    · exact g.elim
  · obtain ⟨a, xs, rfl, h1, rl⟩ := rp_kt r1
    rw [rp_int] at r2
    split at g
    · rename_i w ew
      obtain ⟨y2, e2, r3⟩ := atI_rp rl ew
      exact ix_tup value slice pins s σ H _ y v u Qv I rx ry ⟨a, xs, _, y2, rfl, r2, h1.sq, e2, nq.now W r3 g⟩ hs
    · exact g.elim
  · split at g
    · rename_i ws e
      obtain ⟨a, xs, rfl, h1, rl⟩ := lsv_of W r1 e
      rw [rp_int] at r2
      split at g
      · rename_i w ew
        obtain ⟨y2, e2, r3⟩ := atI_rp rl ew
        exact ix_list value slice pins s σ H _ y v u Qv I rx ry ⟨a, xs, _, y2, rfl, r2, h1, e2, nq.now W r3 g⟩ hs
      · exact g.elim
    · exact g.elim
  · exact g.elim
/-- a part of a slice -/
abbrev MO := Env → Store → (Option Int → Store → Prop) → (Exn → Store → Prop) → Prop
def NO (K : Frg) (P : Hid) (S : Store) (H : Hp) (Q : Option Int → Store → Prop) (Qv : Option Int → Hp → Prop) : Prop := ∀ b H' S', Wd K P S' H' → Evo S H S' H' → Q b S' → Qv b H'
def rdO (K : Frg) (E : WX) (m : MO) : TO := fun σv H Qv => ∃ P S σ Q Ex, Wd K P S H ∧ RpS K P S H σ σv ∧ m σ S Q Ex ∧ NO K P S H Q Qv ∧ NX K P S H Ex (fun c d H' => E c d σv H')
def JO (X : Cx) (E : WX) (e : Option Expr) (m : MO) : Prop := PO X e (rdO X.K E m)
def mNoPart : MO := fun _ S Q _ => Q none S
def mPart (m : ME) : MO := fun σ S Q Ex => m σ S (fun w S1 => match w with | .int i => Q (some i) S1 | _ => False) Ex
theorem PO.weak {X : Cx} {e : Option Expr} {t t' : TO} (h : PO X e t) (i : ∀ σ H Q, t' σ H Q → t σ H Q) : PO X e t' := ⟨fun pins s σ H Q I q => h.run pins s σ H Q I (i σ H Q q)⟩
theorem jo_none : JO X E none mNoPart := PO.weak po_none fun σv H Qv q => by
  obtain ⟨P, S, σ, Q, Ex, W, r, m, nq, nx⟩ := q
  exact nq none H S W Evo.refl m
theorem jo_some {e : Expr} {m : ME} (h : JE X E e m) : JO X E (some e) (mPart m) := PO.weak (po_some h) fun σv H Qv q => by
  obtain ⟨P, S, σ, Q, Ex, W, r, m, nq, nx⟩ := q
  refine ⟨P, S, σ, _, Ex, W, r, m, fun v H1 w S1 W1 r1 e1 m1 => ?_, nx⟩
  dsimp only at m1
  split at m1
  · rename_i i
    rw [rp_int] at r1
    exact ⟨i, r1, nq (some i) H1 S1 W1 e1 m1⟩
  · exact m1.elim
def cutW {α : Type} (xs : List α) (lo hi : Option Int) : List α := (xs.drop (HT.sIx xs.length 0 lo)).take (HT.sIx xs.length xs.length hi - HT.sIx xs.length 0 lo)
abbrev OpS := Dt → Option Int → Option Int → Store → (Dt → Store → Prop) → Prop
def pySlice : OpS
  | .str z, lo, hi, S, Q => z.length ≤ sizeLine ∧ Q (.str (cutS z lo hi)) S
  | .tup ws, lo, hi, S, Q => Q (.tup (cutW ws lo hi)) S
  | x, lo, hi, S, Q => match lsv S x with
    | some ws => Q (.lst (cutW ws lo hi)) S
    | none => False
def rdSl (K : Frg) (g : OpS) : V → Option Int → Option Int → Hp → VK → Prop := fun x lo hi H Qv => ∃ P S w Q, Wd K P S H ∧ Rp K P S H w x ∧ g w lo hi S Q ∧ NQ K P S H Q Qv
theorem cut_rp {K : Frg} {P : Hid} {S : Store} {H : Hp} {ws : List Dt} {xs : List V} {lo hi : Option Int} (rl : RpL K P S H ws xs) : RpL K P S H (cutW ws lo hi) (cutV xs lo hi) := by
  unfold cutW cutV
  rw [← rl.length]
  exact (rl.drop _).take _
theorem o_slice : SlR X (rdSl X.K pySlice) := by
  intro pins s σ H x v vl vu lo hi sl Qv I rx hs pl pu h
  obtain ⟨P, S, w, Q, W, r1, g, nq⟩ := h
  unfold pySlice at g
  split at g
  · rw [rp_str] at r1
    exact sl_str pins s σ H x v vl vu _ _ sl Qv I rx hs pl pu ⟨_, r1, g.1, nq.now W rpStr g.2⟩
  · rename_i ws
    obtain ⟨a, xs, rfl, h1, rl⟩ := rp_tup r1
    refine sl_tupA pins s σ H _ v vl vu _ _ sl Qv I rx hs pl pu ⟨a, xs, rfl, h1, fun e => ?_, fun _ p hp => nq.tup W (cut_rp rl) g hp⟩
    have e2 : cutW ws lo hi = ws := by
      unfold cutW
      rw [rl.length, e.1, e.2, Nat.sub_zero, List.drop_zero, ← rl.length, List.take_length]
    rw [e2] at g
    exact nq.now W r1 g
  · split at g
    · rename_i ws e
      obtain ⟨a, xs, rfl, h1, rl⟩ := lsv_of W r1 e
      exact sl_list pins s σ H _ v vl vu _ _ sl Qv I rx hs pl pu ⟨a, xs, rfl, h1, fun p hp => nq.lst W (cut_rp rl) g hp⟩
    · exact g.elim
def mSl (g : OpS) (ma : ME) (ml mh : MO) : ME := fun σ S Q Ex => ma σ S (fun x S1 => ml σ S1 (fun lo S2 => mh σ S2 (fun hi S3 => g x lo hi S3 Q) Ex) Ex) Ex
theorem je_slice {a : Expr} {lo hi : Option Expr} {ma : ME} {ml mh : MO} {g : OpS} {pos p2 : Pos} (hr : SlR X (rdSl X.K g)) (ha : JE X E a ma) (hl : JO X E lo ml) (hh : JO X E hi mh) : JE X E (.Subscript a (.Slice lo hi none p2) pos) (mSl g ma ml mh) := PE.weak (pe_slice hr ha hl hh) fun σv H Qv q => by
  obtain ⟨P, S, σ, Q, Ex, W, r, m, nq, nx⟩ := q
  refine ⟨P, S, σ, _, Ex, W, r, m, fun v H1 w S1 W1 r1 e1 m1 => ?_, nx⟩
  refine ⟨P, S1, σ, _, Ex, W1, r.mono e1, m1, fun o H2 S2 W2 e2 m2 => ?_, nx.after e1⟩
  refine ⟨P, S2, σ, _, Ex, W2, r.mono (e1.trans e2), m2, fun o2 H3 S3 W3 e3 m3 => ?_, nx.after (e1.trans e2)⟩
  exact ⟨P, S3, w, Q, W3, r1.mono (e2.trans e3), m3, nq.after ((e1.trans e2).trans e3)⟩
/-! ### methods of built-in types -/
def tyW (T : String) (S : Store) (w : Dt) : Bool := match T with
  | "list" => (lsv S w).isSome
  | "str" => match w with | .str _ => true | _ => false
  | "tuple" => match w with | .kt _ => true | _ => false
  | _ => false
theorem tyW_of {K : Frg} {P : Hid} {S : Store} {H : Hp} {T : String} (W : Wd K P S H) {w : Dt} {v : V} (r : Rp K P S H w v) (h : tyW T S w = true) : tyV K T v H := by
  unfold tyW at h
  split at h
  · cases e : lsv S w with
    | none => rw [e] at h; cases h
    | some ws =>
      obtain ⟨a, xs, rfl, h1, _⟩ := lsv_of W r e
      exact .inl ⟨rfl, xs, h1⟩
  · split at h
    · rw [rp_str] at r; subst r; rfl
    · cases h
  · split at h
    · obtain ⟨a, xs, rfl, h1, _⟩ := rp_kt r
      exact .inr (.inl ⟨rfl, h1.2⟩)
    · cases h
  · cases h
def mMeth (T : String) (g : Dt → OpN) (mo : ME) (ma : MA) : ME := fun σ S Q Ex => mo σ S (fun x S1 => tyW T S1 x = true ∧ ma σ S1 (fun xs S2 => g x xs S2 Q) Ex) Ex
theorem meth_weak {T : String} {g : Dt → OpN} {K : Frg} {mo : ME} {ma : MA} {σv : L2.St} {H : Hp} {Qv : VK} (h : rdE K E (mMeth T g mo ma) σv H Qv) : tBM K T (rdM K g) (rdE K E mo) (rdA K E ma) σv H Qv := by
  obtain ⟨P, S, σ, Q, Ex, W, r, m, nq, nx⟩ := h
  refine ⟨P, S, σ, _, Ex, W, r, m, fun v H1 w S1 W1 r1 e1 m1 => ?_, nx⟩
  refine ⟨tyW_of W1 r1 m1.1, P, S1, σ, _, Ex, W1, r.mono e1, m1.2, fun vs H2 ws S2 W2 r2 e2 m2 => ?_, nx.after e1⟩
  exact ⟨P, S2, w, ws, Q, W2, r1.mono e2, r2, m2, nq.after (e1.trans e2)⟩
theorem je_meth {o e : Expr} {es : List Expr} {name : Str} {T id : String} {g : Dt → OpN} {mo : ME} {ma : MA} {apos cpos : Pos} (pa : PlainAttrs T) (slot : Slot T name id) (hty : typeOf (.builtin id) = pure (.type "method_descriptor")) (hm : MtR X id (rdM X.K g)) (ho : JE X E o mo) (ha : JA X E (e :: es) ma)
    (hbase : attributeBase o name X.env (eval o X.env) = eval o X.env := by rfl)
    (hfew : ((backTo cpos (starEach (e :: es) X.env)).all (fun x => !x.1) && (backToKw cpos (keywordEach [] X.env)).all (fun x => x.1.isSome) && decide ((e :: es).length + ([] : List Keyword).length + (if ([] : List Keyword).isEmpty then 0 else 1) < 30)) = true := by rfl)
    (hline : (apos.endLine == cpos.line) = true := by rfl) (hs : starEach (e :: es) X.env = (false, eval e X.env) :: starEach es X.env := by rfl)
    (hplain : (backTo cpos (starEach es X.env)).any (·.1) = false := by rfl) : JE X E (.Call (.Attribute o name apos) (e :: es) [] cpos) (mMeth T g mo ma) :=
  PE.weak (pe_bm pa slot hty hm ho ha hbase hfew hline hs hplain) fun _ _ _ => meth_weak
def pyAppend : Dt → OpN
  | .ref a, [w], S, Q => match S a with
    | some (.lst ws) => ws.length < sizeLine ∧ Q .non (sup S a (.lst (ws ++ [w])))
    | _ => False
  | _, _, _, _ => False
theorem m_append : MtR X "list.append" (rdM X.K pyAppend) := by
  intro pins s σ H x vs v us Qv I rx rv h
  obtain ⟨P, S, w, ws, Q, W, r1, r2, g, nq⟩ := h
  unfold pyAppend at g
  split at g
  · rename_i a z
    rw [rp_ref] at r1
    subst r1
    obtain ⟨y, rfl, r3⟩ := r2.one
    split at g
    · rename_i us e
      obtain ⟨xs, e2, rl⟩ := W.sim a _ e
      refine mt_append pins s σ H _ _ v _ Qv I rx rv ⟨a, xs, y, rfl, rfl, e2, by rw [← rl.length]; exact g.1, ?_⟩
      have ev : Evo S H (sup S a (.lst (us ++ [z]))) (upd H a (.lst (xs ++ [y]))) := Evo.set e
      refine nq _ _ .non (sup S a (.lst (us ++ [z]))) (W.put (W.nohid e) (fun n => by rw [e] at n; cases n) ⟨xs ++ [y], upd_same, (rl.append (RpL.cons r3 RpL.nil)).mono ev⟩) rpNon ev g.2
    · exact g.elim
  · exact g.elim
def pyExtend : Dt → OpN
  | .ref a, [.tup zs], S, Q => match S a with
    | some (.lst ws) => ws.length + zs.length ≤ sizeLine ∧ Q .non (sup S a (.lst (ws ++ zs)))
    | _ => False
  | .ref a, [w], S, Q => match S a, plv S w with
    | some (.lst ws), some zs => ws.length + zs.length ≤ sizeLine ∧ Q .non (sup S a (.lst (ws ++ zs)))
    | _, _ => False
  | _, _, _, _ => False
theorem m_extend : MtR X "list.extend" (rdM X.K pyExtend) := by
  intro pins s σ H x vs v us Qv I rx rv h
  obtain ⟨P, S, w, ws, Q, W, r1, r2, g, nq⟩ := h
  unfold pyExtend at g
  split at g
  · rename_i a zs
    rw [rp_ref] at r1
    subst r1
    obtain ⟨y, rfl, r3⟩ := r2.one
    split at g
    · rename_i us e
      obtain ⟨xs, e2, rl⟩ := W.sim a _ e
      obtain ⟨b, ys, rfl, h1, rl3⟩ := rp_tup r3
      refine mt_extT pins s σ H _ _ v _ Qv I rx rv ⟨a, b, xs, ys, rfl, rfl, e2, h1, by rw [← rl.length, ← rl3.length]; exact g.1, ?_⟩
      have ev : Evo S H (sup S a (.lst (us ++ zs))) (upd H a (.lst (xs ++ ys))) := Evo.set e
      refine nq _ _ .non (sup S a (.lst (us ++ zs))) (W.put (W.nohid e) (fun n => by rw [e] at n; cases n) ⟨xs ++ ys, upd_same, (rl.append rl3).mono ev⟩) rpNon ev g.2
    · exact g.elim
  · rename_i a z hne
    rw [rp_ref] at r1
    subst r1
    obtain ⟨y, rfl, r3⟩ := r2.one
    split at g
    · rename_i us zs e ez
      obtain ⟨xs, e2, rl⟩ := W.sim a _ e
      obtain ⟨b, ys, rfl, e3, rl3⟩ := plv_of W r3 ez
      refine mt_extend pins s σ H _ _ v _ Qv I rx rv ⟨a, b, xs, ys, rfl, rfl, e2, e3, by rw [← rl.length, ← rl3.length]; exact g.1, ?_⟩
      have ev : Evo S H (sup S a (.lst (us ++ zs))) (upd H a (.lst (xs ++ ys))) := Evo.set e
      refine nq _ _ .non (sup S a (.lst (us ++ zs))) (W.put (W.nohid e) (fun n => by rw [e] at n; cases n) ⟨xs ++ ys, upd_same, (rl.append rl3).mono ev⟩) rpNon ev g.2
    · exact g.elim
  · exact g.elim
/-- a new list made by list(..) -/
def rdNL (K : Frg) (g : List Dt → Store → (List Dt → Store → Prop) → Prop) : List V → Hp → VK → Prop := fun xs H Qv => ∃ P S ws Q, Wd K P S H ∧ RpL K P S H ws xs ∧ g ws S Q ∧
  (∀ p H1 ys us, H p = none → H1 = upd H p (.lst ys) → RpL K P S H us ys → Q us S → Qv (.ref p) H1)
def mFnL (g : List Dt → Store → (List Dt → Store → Prop) → Prop) (ma : MA) : ML := fun σ S Q Ex => ma σ S (fun xs S1 => g xs S1 Q) Ex
def pyList : List Dt → Store → (List Dt → Store → Prop) → Prop
  | [.tup ws], S, Q => Q ws S
  | [x], S, Q => match lsv S x with
    | some ws => Q ws S
    | none => False
  | _, _, _ => False
theorem c_list : CallR X (.type "list") (rdNL X.K pyList) := by
  intro pins s σ H vs us Qv I rv h
  obtain ⟨P, S, ws, Q, W, r, g, nq⟩ := h
  unfold pyList at g
  split at g
  · obtain ⟨v, rfl, r1⟩ := r.one
    obtain ⟨a, xs, rfl, h1, rl⟩ := rp_tup r1
    exact call_list_of pins s σ H _ us Qv I rv ⟨a, xs, rfl, .inr h1, fun l hl => nq l _ xs _ hl rfl rl g⟩
  · split at g
    · rename_i ws e
      obtain ⟨v, rfl, r1⟩ := r.one
      obtain ⟨a, xs, rfl, h1, rl⟩ := lsv_of W r1 e
      exact call_list_of pins s σ H _ us Qv I rv ⟨a, xs, rfl, .inl h1, fun l hl => nq l _ xs _ hl rfl rl g⟩
    · exact g.elim
  · exact g.elim
theorem jl_callT {x : Str} {T : String} {e : Expr} {es : List Expr} {g : List Dt → Store → (List Dt → Store → Prop) → Prop} {ma : MA} {p pos : Pos} (hc : CallR X (.type T) (rdNL X.K g)) (hg : Gl X x) (hm : X.mg x = none) (hv : bootBuiltins x = some (.type T)) (ha : JA X E (e :: es) ma)
    (hn : x ≠ "__name__" := by decide) (hdb : (x == ("__debug__" : Str)) = false := by decide) (he : starEach (e :: es) X.env = (false, eval e X.env) :: starEach es X.env := by rfl)
    (hpl : (backTo pos (starEach es X.env)).any (·.1) = false := by rfl) :
    JL X E (.Call (.Name x p) (e :: es) [] pos) (mFnL g ma) := PE.weak (pe_callTy hc hg hm hv ha hn hdb he hpl) fun σv H Qv q => by
  obtain ⟨P, S, σ, Q, Ex, W, r, m, nq, nx⟩ := q
  exact ⟨P, S, σ, _, Ex, W, r, m, fun v H1 w S1 W1 r1 e1 m1 => ⟨P, S1, w, Q, W1, r1, m1, fun p H2 ys us hp e2 rl q2 => nq p H1 H2 ys us S1 W1 hp e2 rl e1 q2⟩, nx⟩
end
end Dn

namespace Dn
open PySem PySem.Spec PyProof.Rows L2
section
variable {X : Cx} {E : WX}
/-! ### statements -/
def mSeq (m1 m2 : MS) : MS := fun D σ S => m1 { D with nx := fun σ' S' => m2 D σ' S' } σ S
def mNext : MS := fun D σ S => D.nx σ S
def mRet (m : ME) : MS := fun D σ S => m σ S D.rt (fun x S' => D.ex x σ S')
def mRetN : MS := fun D σ S => D.rt .non S
def mIfS (mt : MT) (m1 m2 : MS) : MS := fun D σ S => mt σ S (fun b S1 => br b (m1 D σ S1) (m2 D σ S1)) (fun x S' => D.ex x σ S')
def mSet (i : Nat) (m : ME) : MS := fun D σ S => m σ S (fun w S1 => D.nx (σ.set i (some w)) S1) (fun x S' => D.ex x σ S')
def mDrop (m : ME) : MS := fun D σ S => m σ S (fun _ S1 => D.nx σ S1) (fun x S' => D.ex x σ S')
def mBrk : MS := fun D σ S => D.bk σ S
def mCnt : MS := fun D σ S => D.ct σ S
theorem NXS.at {K : Frg} {P : Hid} {S : Store} {H : Hp} {Q : Exn → Env → Store → Prop} {N : WX} (h : NXS K P S H Q N) {σ : Env} {σv : L2.St} (r : RpS K P S H σ σv) : NX K P S H (fun x S' => Q x σ S') (fun c d H' => N c d σv H') :=
  fun c d H2 x S2 W rx e q => h c d σv H2 x σ S2 W rx (r.mono e) e q
theorem jss_nil : JSs X E [] mNext := PSs.weak pss_nil fun σv H D q => by
  obtain ⟨P, S, σ, Dw, W, r, m, d⟩ := q
  exact d.nx σv H σ S W r Evo.refl m
theorem jss_cons {st : Stmt} {rest : List Stmt} {m1 m2 : MS} (h1 : JS X E st m1) (h2 : JSs X E rest m2) : JSs X E (st :: rest) (mSeq m1 m2) := PSs.weak (pss_cons h1 h2) fun σv H D q => by
  obtain ⟨P, S, σ, Dw, W, r, m, d⟩ := q
  exact ⟨P, S, σ, _, W, r, m, fun σv' H' σ' S' W' r' e' q' => ⟨P, S', σ', Dw, W', r', q', d.after e'⟩, d.rt, d.bk, d.ct, d.ex⟩
theorem jss_one {st : Stmt} {m : MS} (h1 : JS X E st m) : JSs X E [st] m := pss_one h1
theorem js_pass {pos} : JS X E (.Pass pos) mNext := PS.weak ps_pass fun σv H D q => by
  obtain ⟨P, S, σ, Dw, W, r, m, d⟩ := q
  exact d.nx σv H σ S W r Evo.refl m
theorem js_brk {pos} : JS X E (.Break pos) mBrk := PS.weak ps_break fun σv H D q => by
  obtain ⟨P, S, σ, Dw, W, r, m, d⟩ := q
  exact d.bk σv H σ S W r Evo.refl m
theorem js_cnt {pos} : JS X E (.Continue pos) mCnt := PS.weak ps_continue fun σv H D q => by
  obtain ⟨P, S, σ, Dw, W, r, m, d⟩ := q
  exact d.ct σv H σ S W r Evo.refl m
theorem js_ret {e : Expr} {m : ME} {pos} (h : JE X E e m) : JS X E (.Return (some e) pos) (mRet m) := PS.weak (ps_ret h) fun σv H D q => by
  obtain ⟨P, S, σ, Dw, W, r, m, d⟩ := q
  exact ⟨P, S, σ, _, _, W, r, m, d.rt, d.ex.at r⟩
theorem js_retN {pos} : JS X E (.Return none pos) mRetN := PS.weak ps_retN fun σv H D q => by
  obtain ⟨P, S, σ, Dw, W, r, m, d⟩ := q
  exact d.rt .non H .non S W rpNon Evo.refl m
theorem js_if {c : Expr} {a b : List Stmt} {mt : MT} {m1 m2 : MS} {pos} (hc : JT X E c mt) (h1 : JSs X E a m1) (h2 : JSs X E b m2) : JS X E (.If c a b pos) (mIfS mt m1 m2) := PS.weak (ps_if hc h1 h2) fun σv H D q => by
  obtain ⟨P, S, σ, Dw, W, r, m, d⟩ := q
  refine ⟨P, S, σ, _, _, W, r, m, fun b H1 S1 W1 e1 m1 => ?_, d.ex.at r⟩
  cases b with
  | true => exact ⟨P, S1, σ, Dw, W1, r.mono e1, m1, d.after e1⟩
  | false => exact ⟨P, S1, σ, Dw, W1, r.mono e1, m1, d.after e1⟩
theorem js_drop {e : Expr} {m : ME} {pos} (h : JE X E e m) (hs : swapsWith e none pos.line X.env = pure false := by rfl) : JS X E (.Expr e pos) (mDrop m) := PS.weak (ps_expr h hs) fun σv H D q => by
  obtain ⟨P, S, σ, Dw, W, r, m, d⟩ := q
  exact ⟨P, S, σ, _, _, W, r, m, fun v H1 w S1 W1 r1 e1 m1 => d.nx σv H1 σ S1 W1 (r.mono e1) e1 m1, d.ex.at r⟩
/-! ### targets -/
abbrev MG := Dt → Env → Store → (Env → Store → Prop) → (Exn → Env → Store → Prop) → Prop
def rdG (K : Frg) (E : WX) (mg : MG) : TG := fun v σv H R => ∃ P S σ w Q Ex, Wd K P S H ∧ RpS K P S H σ σv ∧ Rp K P S H w v ∧ mg w σ S Q Ex ∧ NN K P S H Q R ∧ NXS K P S H Ex E
abbrev MGs := List Dt → Env → Store → (Env → Store → Prop) → (Exn → Env → Store → Prop) → Prop
def rdGs (K : Frg) (E : WX) (mg : MGs) : TGs := fun vs σv H R => ∃ P S σ ws Q Ex, Wd K P S H ∧ RpS K P S H σ σv ∧ RpL K P S H ws vs ∧ mg ws σ S Q Ex ∧ NN K P S H Q R ∧ NXS K P S H Ex E
def JG (X : Cx) (E : WX) (e : Expr) (m : MG) : Prop := PG X e (rdG X.K E m)
def JGs (X : Cx) (E : WX) (es : List Expr) (m : MGs) : Prop := PGs X es (rdGs X.K E m)
theorem PG.weak {e : Expr} {t t' : TG} (h : PG X e t) (i : ∀ v σ H Q, t' v σ H Q → t v σ H Q) : PG X e t' := ⟨fun pins s σ H v u Q I r q => h.run pins s σ H v u Q I r (i v σ H Q q)⟩
theorem PGs.weak {e : List Expr} {t t' : TGs} (h : PGs X e t) (i : ∀ v σ H Q, t' v σ H Q → t v σ H Q) : PGs X e t' := ⟨fun pins s σ H v u Q I r q => h.run pins s σ H v u Q I r (i v σ H Q q)⟩
def mgName (i : Nat) : MG := fun w σ S Q _ => Q (σ.set i (some w)) S
def mgNil : MGs := fun ws σ S Q _ => match ws with
  | [] => Q σ S
  | _ :: _ => False
def mgCons (m : MG) (ms : MGs) : MGs := fun ws σ S Q Ex => match ws with
  | w :: r => m w σ S (fun σ1 S1 => ms r σ1 S1 Q Ex) Ex
  | [] => False
def mgTup (n : Nat) (ms : MGs) : MG := fun w σ S Q Ex => match w with
  | .tup ws => ws.length = n ∧ ms ws σ S Q Ex
  | _ => False
theorem jg_name {i : Nat} {x : Str} {pos : Pos} (h : PG X (.Name x pos) (gName i)) : JG X E (.Name x pos) (mgName i) := PG.weak h fun v σv H R q => by
  obtain ⟨P, S, σ, w, Q, Ex, W, r, rw', m, nn, nx⟩ := q
  exact nn _ H _ S W (r.set rw') Evo.refl m
theorem jgs_nil : JGs X E [] mgNil := PGs.weak pgs_nil fun v σv H R q => by
  obtain ⟨P, S, σ, w, Q, Ex, W, r, rw', m, nn, nx⟩ := q
  unfold mgNil at m
  split at m
  · exact ⟨rw'.nilE, nn _ H _ S W r Evo.refl m⟩
  · exact m.elim
theorem jgs_cons {e : Expr} {es : List Expr} {m : MG} {ms : MGs} (h1 : JG X E e m) (h2 : JGs X E es ms) (hs : (assignEach (e :: es) X.env).map (·.2) = assign e X.env :: (assignEach es X.env).map (·.2) := by rfl) : JGs X E (e :: es) (mgCons m ms) := PGs.weak (pgs_cons h1 h2 hs) fun v σv H R q => by
  obtain ⟨P, S, σ, w, Q, Ex, W, r, rw', m, nn, nx⟩ := q
  unfold mgCons at m
  split at m
  · obtain ⟨v1, vr, rfl, r1, r2⟩ := rw'.consE
    refine ⟨v1, vr, rfl, P, S, σ, _, _, Ex, W, r, r1, m, fun σv' H' σ' S' W' r' e' q' => ?_, nx⟩
    exact ⟨P, S', σ', _, Q, Ex, W', r', r2.mono e', q', nn.after e', nx.after e'⟩
  · exact m.elim
theorem jg_tup {es : List Expr} {k : Nat} {n : Nat} {ms : MGs} {pos : Pos} (hc : X.calm = true) (h : JGs X E es ms) (hn : (assignEach es X.env).length = n := by rfl) (hst : (assignEach es X.env).findIdx? (·.1) = none := by rfl) : JG X E (.Tuple es k pos) (mgTup n ms) :=
  PG.weak (pg_tup hc h hn hst) fun v σv H R q => by
    obtain ⟨P, S, σ, w, Q, Ex, W, r, rw', m, nn, nx⟩ := q
    unfold mgTup at m
    split at m
    · obtain ⟨a, xs, rfl, h1, rl⟩ := rp_tup rw'
      exact ⟨a, xs, rfl, h1, by rw [← rl.length]; exact m.1, P, S, σ, _, Q, Ex, W, r, rl, m.2, nn, nx⟩
    · exact m.elim
def mAsg (m : ME) (g : MG) : MS := fun D σ S => m σ S (fun w S1 => g w σ S1 D.nx D.ex) (fun x S' => D.ex x σ S')
theorem js_asg {tg e : Expr} {m : ME} {g : MG} {pos : Pos} (he : JE X E e m) (hg : JG X E tg g) (hs : swapsWithSole [tg] e pos.line X.env = pure false := by rfl) (hw : swappedStores [tg] e X.env = pure none := by rfl)
    (h1 : (assignEach [tg] X.env).map (·.2) = [assign tg X.env] := by rfl) : JS X E (.Assign [tg] e pos) (mAsg m g) :=
  PS.weak (ps_asg he hg hs hw h1) fun σv H D q => by
    obtain ⟨P, S, σ, Dw, W, r, m, d⟩ := q
    exact ⟨P, S, σ, _, _, W, r, m, fun v H1 w S1 W1 r1 e1 m1 => ⟨P, S1, σ, w, _, _, W1, r.mono e1, r1, m1, d.nx.after e1, d.ex.after e1⟩, d.ex.at r⟩
theorem js_set {i : Nat} {x : Str} {e : Expr} {m : ME} {pos pos' : Pos} (he : JE X E e m) (hg : PG X (.Name x pos') (gName i)) (hs : swapsWithSole [Expr.Name x pos'] e pos.line X.env = pure false := by rfl) (hw : swappedStores [Expr.Name x pos'] e X.env = pure none := by rfl)
    (h1 : (assignEach [Expr.Name x pos'] X.env).map (·.2) = [assign (.Name x pos') X.env] := by rfl) : JS X E (.Assign [.Name x pos'] e pos) (mSet i m) := js_asg he (jg_name hg) hs hw h1
/-- a, b = x, y -/
def mPar (i j : Nat) (ma : MA) : MS := fun D σ S => ma σ S (fun ws S1 => match ws with | [v, w] => D.nx ((σ.set i (some v)).set j (some w)) S1 | _ => False) (fun x S' => D.ex x σ S')
theorem js_par {i j : Nat} {x y : Str} {a b : Expr} {ma : MA} {px py pt pos : Pos} {kt k2 pt2} (hc : X.calm = true) (hN : X.N.Nodup) (hi : X.N[i]? = some x) (hj : X.N[j]? = some y) (hij : i ≠ j)
    (hx : X.env.scope.names.lookup x = some .local) (hy : X.env.scope.names.lookup y = some .local) (ha : JA X E [a, b] ma)
    (hw : swappedStores [.Tuple [.Name x px, .Name y py] kt pt] (.Tuple [a, b] k2 pt2) X.env = pure (some [x, y]) := by rfl)
    (hs : swapsWithSole [.Tuple [.Name x px, .Name y py] kt pt] (.Tuple [a, b] k2 pt2) pos.line X.env = pure false := by rfl) :
    JS X E (.Assign [.Tuple [.Name x px, .Name y py] kt pt] (.Tuple [a, b] k2 pt2) pos) (mPar i j ma) := PS.weak (ps_par hc hN hi hj hij hx hy ha hw hs) fun σv H D q => by
  obtain ⟨P, S, σ, Dw, W, r, m, d⟩ := q
  refine ⟨P, S, σ, _, _, W, r, m, fun vs H' ws S' W' rl e' q' => ?_, d.ex.at r⟩
  match ws, q' with
  | [v, w], q' =>
    unfold RpL at rl
    obtain ⟨v1, rr, rfl, r1, rl⟩ := rl
    unfold RpL at rl
    obtain ⟨v2, rr, rfl, r2, rl⟩ := rl
    unfold RpL at rl
    subst rl
    exact ⟨v1, v2, rfl, d.nx _ H' _ S' W' (((r.mono e').set r1).set r2) e' q'⟩
/-- o[i] = v -/
abbrev OpSet := Dt → Dt → Dt → Store → (Store → Prop) → Prop
def rdSet (K : Frg) (g : OpSet) : TSet := fun o i v H R => ∃ P S wo wi w Q, Wd K P S H ∧ Rp K P S H wo o ∧ Rp K P S H wi i ∧ Rp K P S H w v ∧ g wo wi w S Q ∧ (∀ H' S', Wd K P S' H' → Evo S H S' H' → Q S' → R H')
def mgSub (g : OpSet) (mo mi : ME) : MG := fun w σ S Q Ex => mo σ S (fun o S1 => mi σ S1 (fun i S2 => g o i w S2 (fun S3 => Q σ S3)) (fun x S' => Ex x σ S')) (fun x S' => Ex x σ S')
theorem jg_sub {o i : Expr} {mo mi : ME} {g : OpSet} {pos : Pos} (ho : JE X E o mo) (hi : JE X E i mi) (hs : PSet X (rdSet X.K g))
    (ha : ∀ v, assign (.Subscript o i pos) X.env v = (do
      let ov ← holding [v] (eval o X.env)
      let iv ← holding [v, ov] (eval i X.env)
      standAt pos
      holding [v, ov, iv] (setItem ov iv v)
      release [v, ov, iv] []) := by intro _; rfl) : JG X E (.Subscript o i pos) (mgSub g mo mi) := PG.weak (pg_sub ho hi hs ha) fun v σv H R q => by
  obtain ⟨P, S, σ, w, Q, Ex, W, r, rw', m, nn, nx⟩ := q
  refine ⟨P, S, σ, _, _, W, r, m, fun v1 H1 w1 S1 W1 r1 e1 m1 => ?_, nx.at r⟩
  refine ⟨P, S1, σ, _, _, W1, r.mono e1, m1, fun v2 H2 w2 S2 W2 r2 e2 m2 => ?_, (nx.at r).after e1⟩
  exact ⟨P, S2, w1, w2, w, _, W2, r1.mono e2, r2, rw'.mono (e1.trans e2), m2, fun H' S' W' e' q' => nn σv H' σ S' W' (r.mono ((e1.trans e2).trans e')) ((e1.trans e2).trans e') q'⟩
def pySetItem : OpSet
  | .ref a, .int k, w, S, Q => match S a with
    | some (.lst ws) => match ixN ws.length k with
      | some j => Q (sup S a (.lst (ws.set j w)))
      | none => False
    | _ => False
  | _, _, _, _, _ => False
theorem s_list : PSet X (rdSet X.K pySetItem) := by
  intro pins s σ H o i v ov iv u R I ro ri rv h
  obtain ⟨P, S, wo, wi, w, Q, W, r1, r2, r3, g, k⟩ := h
  unfold pySetItem at g
  split at g
  · rename_i a n
    rw [rp_ref] at r1
    rw [rp_int] at r2
    subst r1 r2
    split at g
    · rename_i ws e
      split at g
      · rename_i j ej
        obtain ⟨xs, e2, rl⟩ := W.sim a _ e
        refine set_list pins s σ H _ _ v ov iv u R I ro ri rv ⟨a, xs, n, j, rfl, rfl, e2, by rw [← rl.length]; exact ej, ?_⟩
        have ev : Evo S H (sup S a (.lst (ws.set j w))) (upd H a (.lst (xs.set j v))) := Evo.set e
        exact k _ (sup S a (.lst (ws.set j w))) (W.put (W.nohid e) (fun n => by rw [e] at n; cases n) ⟨xs.set j v, upd_same, (rl.set j r3).mono ev⟩) ev g
      · exact g.elim
    · exact g.elim
  · exact g.elim
/-! ### x op= e -/
def mAug (i : Nat) (g : Op2) (m : ME) : MS := fun D σ S => match σ[i]? with
  | some (some x) => m σ S (fun w S1 => g x w S1 (fun z S2 => D.nx (σ.set i (some z)) S2)) (fun x S' => D.ex x σ S')
  | _ => False
theorem js_aug {i : Nat} {x : Str} {e : Expr} {m : ME} {op : Operator} {g : Op2} {pos pos' : Pos} (hN : X.N.Nodup) (hi : X.N[i]? = some x) (hx : Loc X.env.scope x) (he : JE X E e m) (ho : PIp X op (rd2 X.K g)) (hf : X.fn x = true ∨ X.env.scope.names.lookup x = some .local := by first | exact .inl rfl | exact .inr rfl | assumption) :
    JS X E (.AugAssign (.Name x pos') op e pos) (mAug i g m) := PS.weak (ps_aug hN hi hx he ho hf) fun σv H D q => by
  obtain ⟨P, S, σ, Dw, W, r, m, d⟩ := q
  unfold mAug at m
  split at m
  · rename_i w ew
    obtain ⟨v, ev, r1⟩ := r.2 i w ew
    refine ⟨v, ev, P, S, σ, _, _, W, r, m, fun v2 H1 w2 S1 W1 r2 e1 m1 => ?_, d.ex.at r⟩
    exact ⟨P, S1, w, w2, _, W1, r1.mono e1, r2, m1, fun v3 H2 w3 S2 W2 r3 e2 m2 => d.nx _ H2 _ S2 W2 ((r.mono (e1.trans e2)).set r3) (e1.trans e2) m2⟩
  · exact m.elim
def pyIAdd : Op2
  | .int i, .int j, S, Q => Q (.int (i + j)) S
  | .str x, .str y, S, Q => x.length + y.length ≤ sizeLine ∧ Q (.str (x ++ y)) S
  | _, _, _, _ => False
theorem i_add : PIp X .Add (rd2 X.K pyIAdd) := by
  intro pins s σ H x y v u Qv I rx ry h
  obtain ⟨P, S, w, z, Q, W, r1, r2, g, nq⟩ := h
  unfold pyIAdd at g
  split at g
  · rename_i i j
    rw [rp_int] at r1 r2
    exact iop_add pins s σ H x y v u Qv I rx ry ⟨i, j, r1, r2, nq.now W rpInt g⟩
  · rename_i i j
    rw [rp_str] at r1 r2
    exact iop_add_str pins s σ H x y v u Qv I rx ry ⟨i, j, r1, r2, g.1, nq.now W rpStr g.2⟩
  · exact g.elim
theorem i_sub : PIp X .Sub (rd2 X.K pySub) := by
  intro pins s σ H x y v u Qv I rx ry h
  obtain ⟨P, S, w, z, Q, W, r1, r2, g, nq⟩ := h
  unfold pySub at g
  split at g
  · rename_i i j
    rw [rp_int] at r1 r2
    exact iop_sub pins s σ H x y v u Qv I rx ry ⟨i, j, r1, r2, nq.now W rpInt g⟩
  · exact g.elim
/-! ### what a for walks -/
/-- J hands out the data ws one by one, as long as gd holds of the store -/
def Deliv (K : Frg) (P : Hid) (J : It) (S0 : Store) (H0 : Hp) (ws : List Dt) (gd : Store → Prop) : Prop :=
  ∀ (P' : Hid) (S : Store) (H : Hp) (i : Nat), (∀ b, P' b → P b ∨ H0 b = none) → Wd K P' S H → Evo S0 H0 S H → gd S →
    (∀ w, ws[i]? = some w → J.go i H ∧ ∀ x H', J.yld i H x H' → Wd K P' S H' ∧ Evo S H S H' ∧ Rp K P' S H' w x) ∧ (ws.length ≤ i → J.stop i H)
abbrev MI := Env → Store → (List Dt → (Store → Prop) → Store → Prop) → (Exn → Store → Prop) → Prop
def rdI (K : Frg) (E : WX) (m : MI) : TI := fun σv H R => ∃ P S σ Q Ex, Wd K P S H ∧ RpS K P S H σ σv ∧ m σ S Q Ex ∧
  (∀ J H' ws gd S', Wd K P S' H' → Evo S H S' H' → Deliv K P J S' H' ws gd → Q ws gd S' → R J H') ∧ NX K P S H Ex (fun c d H' => E c d σv H')
def JI (X : Cx) (E : WX) (tg it : Expr) (m : MI) : Prop := PI X tg it (rdI X.K E m)
theorem PI.weak {tg e : Expr} {t t' : TI} (h : PI X tg e t) (i : ∀ σ H Q, t' σ H Q → t σ H Q) : PI X tg e t' := ⟨fun pins s σ H Q I q => h.run pins s σ H Q I (i σ H Q q)⟩
/-- a list, a tuple -/
def mIter (m : ME) : MI := fun σ S Q Ex => m σ S (fun w S1 => match w with
  | .ref a => match S1 a with | some (.lst ws) => Q ws (fun S2 => S2 a = some (.lst ws)) S1 | _ => False
  | .lst ws => Q ws (fun _ => True) S1
  | .kl ws => Q ws (fun _ => True) S1
  | _ => False) Ex
def mIterT (m : ME) : MI := fun σ S Q Ex => m σ S (fun w S1 => match w with | .tup ws => Q ws (fun _ => True) S1 | _ => False) Ex
end
section
variable {K : Frg} {P P' : Hid} {S S0 : Store} {H H0 : Hp}
theorem Fz.live {a : Addr} {o : HO} (f : Fz P S0 H0 a o) (hp : ∀ b, P' b → P b ∨ H0 b = none) (e : Evo S0 H0 S H) : Fz P' S H a o :=
  ⟨(e a o f.2.1 f.1).1, (e a o f.2.1 f.1).2, fun q => (hp a q).elim f.2.2 fun n => by rw [f.1] at n; cases n⟩
theorem rp_live (hp : ∀ b, P' b → P b ∨ H0 b = none) (e : Evo S0 H0 S H) {w : Dt} {v : V} (r : Rp K P S0 H0 w v) : Rp K P' S H w v :=
  Rp.conv (fun a o h n p => ⟨(e a o n h).1, (e a o n h).2, fun q => (hp a q).elim p fun n => by rw [h] at n; cases n⟩) w v r
theorem rpl_live (hp : ∀ b, P' b → P b ∨ H0 b = none) (e : Evo S0 H0 S H) {w : List Dt} {v : List V} (r : RpL K P S0 H0 w v) : RpL K P' S H w v :=
  RpL.conv (fun a o h n p => ⟨(e a o n h).1, (e a o n h).2, fun q => (hp a q).elim p fun n => by rw [h] at n; cases n⟩) w v r
end
section
variable {X : Cx} {E : WX}
theorem RpL.none_at {K : Frg} {P : Hid} {S : Store} {H : Hp} {ws : List Dt} {xs : List V} (r : RpL K P S H ws xs) {i : Nat} (h : ws.length ≤ i) : xs[i]? = none := by
  rw [r.length] at h
  exact List.getElem?_eq_none h
theorem ji_list {tg l : Expr} {m : ME} (hl : JE X E l m) : JI X E tg l (mIter m) := PI.weak (pi_list hl) fun σv H R q => by
  obtain ⟨P, S, σ, Q, Ex, W, r, m, nj, nx⟩ := q
  refine ⟨P, S, σ, _, Ex, W, r, m, fun v H1 w S1 W1 r1 e1 m1 => ?_, nx⟩
  have fin : ∀ (a : Addr) (xs : List V) (ws : List Dt), SqL X.K H1 a xs → RpL X.K P S1 H1 ws xs → (∀ (P' : Hid) (S2 : Store) (H2 : Hp), (∀ b, P' b → P b ∨ H1 b = none) → Evo S1 H1 S2 H2 → SqL X.K H2 a xs) → Deliv X.K P (Itl X.K a) S1 H1 ws (fun _ => True) :=
    fun a xs ws h1 rl k P' S2 H2 i hp W2 e2 _ => by
      have h2 := k P' S2 H2 hp e2
      have rl2 := rpl_live hp e2 rl
      refine ⟨fun w ew => ?_, fun hi => ⟨xs, h2, by rw [← rl.length]; exact hi⟩⟩
      obtain ⟨x, ex, rx⟩ := rl2.get ew
      refine ⟨⟨xs, x, h2, ex⟩, fun y H' hy => ?_⟩
      obtain ⟨rfl, hy⟩ := hy
      have := (hy xs h2).symm.trans ex
      cases this
      exact ⟨W2, Evo.refl, rx⟩
  dsimp only at m1
  split at m1
  · rename_i a
    rw [rp_ref] at r1
    subst r1
    split at m1
    · rename_i ws e
      obtain ⟨xs, e2, rl⟩ := W1.sim a _ e
      refine ⟨a, rfl, ⟨xs, SqL.of e2⟩, nj _ H1 ws _ S1 W1 e1 (fun P' S2 H2 i hp W2 ev g => ?_) m1⟩
      obtain ⟨ys, e3, rl3⟩ := W2.sim a _ g
      refine ⟨fun w ew => ?_, fun hi => ⟨ys, SqL.of e3, by rw [← rl3.length]; exact hi⟩⟩
      obtain ⟨x, ex, rx⟩ := rl3.get ew
      refine ⟨⟨ys, x, SqL.of e3, ex⟩, fun y H' hy => ?_⟩
      obtain ⟨rfl, hy⟩ := hy
      have := (hy ys (SqL.of e3)).symm.trans ex
      cases this
      exact ⟨W2, Evo.refl, rx⟩
    · exact m1.elim
  · rename_i ws
    unfold Rp at r1
    obtain ⟨a, xs, rfl, f, rl⟩ := r1
    exact ⟨a, rfl, ⟨xs, f.sqL⟩, nj _ H1 ws _ S1 W1 e1 (fin a xs ws f.sqL rl fun P' S2 H2 hp e2 => SqL.of (e2 a _ f.2.1 f.1).1) m1⟩
  · rename_i ws
    unfold Rp at r1
    obtain ⟨a, xs, rfl, f, rl⟩ := r1
    refine ⟨a, rfl, ⟨xs, sqK_of f⟩, nj _ H1 ws _ S1 W1 e1 (fin a xs ws (sqK_of f) rl fun P' S2 H2 hp e2 => ?_) m1⟩
    rcases f with ⟨o, f⟩ | f
    · exact .inl (.inr ⟨o, (e2 a _ f.2.1 f.1).1⟩)
    · exact f.sq
  · exact m1.elim
theorem ji_tup {tg l : Expr} {m : ME} (hl : JE X E l m) : JI X E tg l (mIterT m) := PI.weak (pi_tup hl) fun σv H R q => by
  obtain ⟨P, S, σ, Q, Ex, W, r, m, nj, nx⟩ := q
  refine ⟨P, S, σ, _, Ex, W, r, m, fun v H1 w S1 W1 r1 e1 m1 => ?_, nx⟩
  dsimp only at m1
  split at m1
  · rename_i ws
    unfold Rp at r1
    obtain ⟨a, xs, rfl, f, rl⟩ := r1
    refine ⟨a, rfl, ⟨xs, sqT_of (.inl f)⟩, nj _ H1 ws _ S1 W1 e1 (fun P' S2 H2 i hp W2 e2 _ => ?_) m1⟩
    have h2 : SqT X.K H2 a xs := by
      exact SqT.of (e2 a _ f.2.1 f.1).1
    have rl2 := rpl_live hp e2 rl
    refine ⟨fun w ew => ?_, fun hi => ⟨xs, h2, by rw [← rl.length]; exact hi⟩⟩
    obtain ⟨x, ex, rx⟩ := rl2.get ew
    refine ⟨⟨xs, x, h2, ex⟩, fun y H' hy => ?_⟩
    obtain ⟨rfl, hy⟩ := hy
    have := (hy xs h2).symm.trans ex
    cases this
    exact ⟨W2, Evo.refl, rx⟩
  · exact m1.elim
/-- range -/
def rangeW (lo : Int) : Nat → List Dt
  | 0 => []
  | n + 1 => .int lo :: rangeW (lo + 1) n
theorem rangeW_len : ∀ (n : Nat) (lo : Int), (rangeW lo n).length = n
  | 0, _ => rfl
  | n + 1, lo => by unfold rangeW; rw [List.length_cons, rangeW_len n]
theorem rangeW_get : ∀ (n : Nat) (lo : Int) (i : Nat), i < n → (rangeW lo n)[i]? = some (.int (lo + i))
  | 0, _, i, h => by omega
  | n + 1, lo, 0, h => by unfold rangeW; simp
  | n + 1, lo, i + 1, h => by
    unfold rangeW
    rw [List.getElem?_cons_succ, rangeW_get n (lo + 1) i (by omega)]
    congr 2
    omega
theorem rng_deliv {K : Frg} {P : Hid} {S : Store} {H : Hp} {lo : Int} {n : Nat} : Deliv K P (Itr lo n) S H (rangeW lo n) (fun _ => True) := fun P' S2 H2 i hp W2 e2 _ => by
  refine ⟨fun w ew => ?_, fun hi => by rw [rangeW_len] at hi; exact hi⟩
  have hi : i < n := by
    have := (List.getElem?_eq_some_iff.mp ew).1
    rw [rangeW_len] at this
    exact this
  rw [rangeW_get n lo i hi] at ew
  cases ew
  refine ⟨hi, fun y H' hy => ?_⟩
  obtain ⟨rfl, rfl⟩ := hy
  exact ⟨W2, Evo.refl, rpInt⟩
def mRng1 (m : MA) : MI := fun σ S Q Ex => m σ S (fun ws S1 => match ws with | [.int n] => (-(2 ^ 62) ≤ n ∧ n < 2 ^ 62) ∧ Q (rangeW 0 n.toNat) (fun _ => True) S1 | _ => False) Ex
def mRng2 (m : MA) : MI := fun σ S Q Ex => m σ S (fun ws S1 => match ws with | [.int a, .int n] => (-(2 ^ 62) ≤ a ∧ a < 2 ^ 62 ∧ -(2 ^ 62) ≤ n ∧ n < 2 ^ 62) ∧ Q (rangeW a (n - a).toNat) (fun _ => True) S1 | _ => False) Ex
theorem ji_rng1 {tg a : Expr} {m : MA} {p pos : Pos} (hg : Gl X "range") (hm : X.mg "range" = none) (ha : JA X E [a] m) (hs : starEach [a] X.env = [(false, eval a X.env)] := by rfl) : JI X E tg (.Call (.Name "range" p) [a] [] pos) (mRng1 m) := PI.weak (pi_range1 hg hm ha hs) fun σv H R q => by
  obtain ⟨P, S, σ, Q, Ex, W, r, m, nj, nx⟩ := q
  refine ⟨P, S, σ, _, Ex, W, r, m, fun v H1 w S1 W1 r1 e1 m1 => ?_, nx⟩
  dsimp only at m1
  split at m1
  · obtain ⟨y, rfl, r2⟩ := r1.one
    rw [rp_int] at r2
    subst r2
    exact ⟨_, rfl, m1.1.1, m1.1.2, nj _ H1 _ _ S1 W1 e1 rng_deliv m1.2⟩
  · exact m1.elim
theorem ji_rng2 {tg a b : Expr} {m : MA} {p pos : Pos} (hg : Gl X "range") (hm : X.mg "range" = none) (ha : JA X E [a, b] m) (hs : starEach [a, b] X.env = [(false, eval a X.env), (false, eval b X.env)] := by rfl) (hs2 : starEach [b] X.env = [(false, eval b X.env)] := by rfl) : JI X E tg (.Call (.Name "range" p) [a, b] [] pos) (mRng2 m) := PI.weak (pi_range2 hg hm ha hs hs2) fun σv H R q => by
  obtain ⟨P, S, σ, Q, Ex, W, r, m, nj, nx⟩ := q
  refine ⟨P, S, σ, _, Ex, W, r, m, fun v H1 w S1 W1 r1 e1 m1 => ?_, nx⟩
  dsimp only at m1
  split at m1
  · obtain ⟨y, z, rfl, r2, r3⟩ := r1.two
    rw [rp_int] at r2 r3
    subst r2 r3
    exact ⟨_, _, rfl, m1.1, nj _ H1 _ _ S1 W1 e1 rng_deliv m1.2⟩
  · exact m1.elim
/-! ### loops -/
def forW (g : MG) (body : MS) (gd : Store → Prop) (D : EndsW) : List Dt → Env → Store → Prop
  | [], σ, S => gd S ∧ D.nx σ S
  | w :: ws, σ, S => gd S ∧ g w σ S (fun σ1 S1 => body { D with nx := forW g body gd D ws, ct := forW g body gd D ws, bk := D.nx } σ1 S1) D.ex
@[irreducible] def loopW (g : MG) (body : MS) (gd : Store → Prop) (D : EndsW) (ws : List Dt) (σ : Env) (S : Store) : Prop := forW g body gd D ws σ S
theorem loopW_eq {g : MG} {body : MS} {gd : Store → Prop} {D : EndsW} : loopW g body gd D = forW g body gd D := by
  funext ws σ S
  unfold loopW
  rfl
def mFor (mi : MI) (g : MG) (body : MS) : MS := fun D σ S => mi σ S (fun ws gd S1 => loopW g body gd D ws σ S1) (fun x S' => D.ex x σ S')
theorem js_for {tg iter : Expr} {body : List Stmt} {mi : MI} {g : MG} {mb : MS} {pos : Pos} (hp : PassesOwn (model X.prog X.w) X.A X.env X.xe) (hc : X.calm = true) (hi : JI X E tg iter mi) (hg : JG X E tg g) (hb : JSs X E body mb)
    (hs : ∀ x, foldedSetIterable iter X.env x = pure x := by intro _; rfl) : JS X E (.For tg iter body [] pos) (mFor mi g mb) := PS.weak (ps_for hp hc hi hg hb hs) fun σv H D q => by
  obtain ⟨P, S, σ, Dw, W, r, m, d⟩ := q
  unfold mFor at m
  simp only [loopW_eq] at m
  refine ⟨P, S, σ, _, _, W, r, m, fun J H1 ws gd S1 W1 e1 dl m1 => ?_, d.ex.at r⟩
  refine ⟨fun i k σv2 H2 => ∃ σ2 S2 us, Wd X.K P S2 H2 ∧ RpS X.K P S2 H2 σ2 σv2 ∧ Evo S1 H1 S2 H2 ∧ us = ws.drop i ∧ k = us.length ∧ i ≤ ws.length ∧ forW g mb gd Dw us σ2 S2, ⟨ws.length, σ, S1, ws, W1, r.mono e1, Evo.refl, rfl, rfl, Nat.zero_le _, m1⟩, ?_⟩
  rintro i k σv2 H2 ⟨σ2, S2, us, W2, r2, e2, eu, ek, hi, f⟩
  cases us with
  | nil =>
    unfold forW at f
    have hl : ws.length ≤ i := by
      have := congrArg List.length eu
      simp at this
      omega
    exact .inl ⟨(dl P S2 H2 i (fun b h => .inl h) W2 e2 f.1).2 hl, d.nx σv2 H2 σ2 S2 W2 r2 (e1.trans e2) f.2⟩
  | cons w us =>
    unfold forW at f
    have ew : ws[i]? = some w := by
      have := congrArg List.head? eu
      rw [List.head?_cons, List.head?_drop] at this
      exact this.symm
    have hil : i < ws.length := (List.getElem?_eq_some_iff.mp ew).1
    have eu2 : us = ws.drop (i + 1) := by
      have := congrArg List.tail eu
      rw [List.tail_cons, List.tail_drop] at this
      exact this
    obtain ⟨hgo, hy⟩ := (dl P S2 H2 i (fun b h => .inl h) W2 e2 f.1).1 w ew
    refine .inr ⟨hgo, fun σ' H' => ∃ σ3 S3, Wd X.K P S3 H' ∧ RpS X.K P S3 H' σ3 σ' ∧ Evo S1 H1 S3 H' ∧ forW g mb gd Dw us σ3 S3, fun σ' H' hN => ?_, fun x H' hx => ?_⟩
    · obtain ⟨σ3, S3, W3, r3, e3, f3⟩ := hN
      exact ⟨us.length, by rw [ek, List.length_cons]; omega, σ3, S3, us, W3, r3, e3, eu2, rfl, hil, f3⟩
    · obtain ⟨W3, e3, r3⟩ := hy x H' hx
      refine ⟨P, S2, σ2, w, _, _, W3, r2.mono e3, r3, f.2, fun σv4 H4 σ4 S4 W4 r4 e4 q4 => ?_, d.ex.after ((e1.trans e2).trans e3)⟩
      have e14 : Evo S1 H1 S4 H4 := (e2.trans e3).trans e4
      refine ⟨P, S4, σ4, _, W4, r4, q4, ⟨fun σv5 H5 σ5 S5 W5 r5 e5 q5 => ⟨σ5, S5, W5, r5, e14.trans e5, q5⟩, d.rt.after (e1.trans e14), d.nx.after (e1.trans e14), fun σv5 H5 σ5 S5 W5 r5 e5 q5 => ⟨σ5, S5, W5, r5, e14.trans e5, q5⟩, d.ex.after (e1.trans e14)⟩⟩
def whileN (mt : MT) (body : MS) (D : EndsW) : Nat → Env → Store → Prop
  | 0, _, _ => False
  | n + 1, σ, S => mt σ S (fun b S1 => br b (body { D with nx := whileN mt body D n, ct := whileN mt body D n, bk := D.nx } σ S1) (D.nx σ S1)) (fun x S' => D.ex x σ S')
def mWhile (mt : MT) (body : MS) : MS := fun D σ S => ∃ n, whileN mt body D n σ S
theorem js_while {c : Expr} {body : List Stmt} {mt : MT} {mb : MS} {pos : Pos} (hp : PassesOwn (model X.prog X.w) X.A X.env X.xe) (hc : JT X E c mt) (hb : JSs X E body mb) : JS X E (.While c body [] pos) (mWhile mt mb) := PS.weak (ps_while hp hc hb) fun σv H D q => by
  obtain ⟨P, S, σ, Dw, W, r, m, d⟩ := q
  obtain ⟨n, m⟩ := m
  refine ⟨fun k σv2 H2 => ∃ σ2 S2, Wd X.K P S2 H2 ∧ RpS X.K P S2 H2 σ2 σv2 ∧ Evo S H S2 H2 ∧ whileN mt mb Dw k σ2 S2, ⟨n, σ, S, W, r, Evo.refl, m⟩, ?_⟩
  rintro k σv2 H2 ⟨σ2, S2, W2, r2, e2, f⟩
  cases k with
  | zero => exact f.elim
  | succ k =>
    unfold whileN at f
    refine ⟨P, S2, σ2, _, _, W2, r2, f, fun b H3 S3 W3 e3 m3 => ?_, (d.ex.after e2).at r2⟩
    cases b with
    | true =>
      refine ⟨fun σ' H' => ∃ σ3 S3, Wd X.K P S3 H' ∧ RpS X.K P S3 H' σ3 σ' ∧ Evo S H S3 H' ∧ whileN mt mb Dw k σ3 S3, fun σ' H' hN => ⟨k, Nat.lt_succ_self k, hN⟩, ?_⟩
      have e4 := e2.trans e3
      exact ⟨P, S3, σ2, _, W3, r2.mono e3, m3, ⟨fun σv5 H5 σ5 S5 W5 r5 e5 q5 => ⟨σ5, S5, W5, r5, e4.trans e5, q5⟩, d.rt.after e4, d.nx.after e4, fun σv5 H5 σ5 S5 W5 r5 e5 q5 => ⟨σ5, S5, W5, r5, e4.trans e5, q5⟩, d.ex.after e4⟩⟩
    | false => exact d.nx σv2 H3 σ2 S3 W3 (r2.mono e3) (e2.trans e3) m3
end
end Dn

/-! Dn: clauses with and without a name, in one try. -/
namespace Dn
open PySem PySem.Spec PyProof.Rows L2
/-- what a clause asks for, once its class is met: the ends, the exception, its class, its dict, slots, heap -/
abbrev Ask := Ends → Addr → Value → Option Addr → L2.St → Hp → Prop
/-- of the clauses, one behind the other -/
def askAll (K : Frg) (W0 : WX) (D : Ends) : List (Value × Ask) → WX
  | [] => W0
  | (c, u) :: more => fun kx dx sv hp =>
    ∃ b, PySem.W.exmOne K kx c = some b ∧ (b = true → ∀ ea, hp ea = none → u D ea kx dx sv hp) ∧ (b = false → askAll K W0 D more kx dx sv hp)
/-- the ends of a suite whose clause has a name in slot i -/
def endsOff (D : Ends) (i : Nat) : Ends where
  nx := fun sv hp => D.nx (sv.set i none) hp
  rt := D.rt
  bk := fun sv hp => D.bk (sv.set i none) hp
  ct := fun sv hp => D.ct (sv.set i none) hp
/-- clauses of both kinds -/
inductive Mix (X : Cx) : List ExceptHandler → List (Value × Ask) → Prop
  | nil : Mix X [] []
  | bare {nm : Str} {c : Value} {ts : Addr → Value → Option Addr → TS} {fst : Stmt} {su : List Stmt} {q1 q2 : Pos} {hl : List ExceptHandler} {ul : List (Value × Ask)} (gc : Names X nm c)
      (gs : ∀ (ea : Addr) (ob : Obj) (kx : Value) (dx : Option Addr) (pl : List (Addr × Obj)), Zc kx dx ob → (∃ fv, ob.data = .fields fv) → PSs (X.suite ea ((ea, ob) :: pl)) (fst :: su) (ts ea kx dx)) (more : Mix X hl ul) :
      Mix X (.ExceptHandler (some (.Name nm q1)) none (fst :: su) q2 :: hl) ((c, fun D ea kx dx sv hp => ts ea kx dx D sv hp) :: ul)
  | named {nm vn : Str} {i : Nat} {c : Value} {ts : Addr → Value → Option Addr → TS} {fst : Stmt} {su : List Stmt} {q1 q2 : Pos} {hl : List ExceptHandler} {ul : List (Value × Ask)} (gc : Names X nm c) (gi : X.N[i]? = some vn) (gl : X.env.kindOf vn = some .local)
      (gs : ∀ (ea : Addr) (ob : Obj) (kx : Value) (dx : Option Addr) (pl : List (Addr × Obj)), Zc kx dx ob → (∃ fv, ob.data = .fields fv) → PSs (X.suite ea ((ea, ob) :: pl)) (fst :: su) (ts ea kx dx)) (more : Mix X hl ul) :
      Mix X (.ExceptHandler (some (.Name nm q1)) (some vn) (fst :: su) q2 :: hl) ((c, fun D ea kx dx sv hp => ts ea kx dx (endsOff D i) (sv.set i (some (.ref ea))) hp) :: ul)
section
variable {X : Cx} {bd : List Stmt} {hl : List ExceptHandler} {ul : List (Value × Ask)} {q0 : Pos} {tb : WX → TS} {W0 : WX}
theorem ps_try_mix {h1 : ExceptHandler} (hst : X.stack = X.env :: X.outer) (hfr0 : X.env.frame = some X.env.locals) (nd : X.N.Nodup) (tk : Takes X W0)
    (hbody : ∀ (W : WX) (pl : List (Addr × Obj)) (xw : Value → Shared → Prop), Takes (X.tr pl xw) W → PassesOwn (model X.prog X.w) X.A X.env xw → PSs (X.tr pl xw) bd (tb W))
    (mx : Mix X (h1 :: hl) ul) : PS X (.Try bd (h1 :: hl) [] [] q0) (fun D sv hp => tb (askAll X.K W0 D ul) D sv hp) := by
  refine ⟨fun pins s0 sv hp D inv hyp => ?_⟩
  have okx := inv.ok
  have fr2 : X.A.frames = some (X.env :: X.outer) := by rw [okx.frames, hst]
  refine wpAny_Try_except ?_
  refine wpAny_mono ((hbody (askAll X.K W0 D ul) (X.pn ++ pins) (fun er sa => wpAny (model X.prog X.w) X.A (noteFrame er X.env) (fun _ sb => wpAny (model X.prog X.w) X.A (setFlight er none) (fun _ sc =>
    wpAny (model X.prog X.w) X.A (handleBy er X.env (h1 :: hl)) (SP X pins D) X.xe sc) X.xe sb) X.xe sa) (fun uu sd got => ?_) PassesOwn.looking).run [] s0 sv hp D (inv.toTry _) hyp) (fun fl se hsp => ?_) (fun er se he => he)
  · obtain ⟨ea, B, sI, pins2, sv2, hp2, kx, dx, rfl, inv2, nb, up1, sky1, nea, hos, hag, asked⟩ := got
    have J : Inv X pins sv2 hp2 sI := inv2.ofTry okx
    have sky2 : Sky B (X.env :: X.outer) ea (Zc kx dx) X.env.locals sd.heap := by rw [← hst]; exact sky1
    show wpAny (model X.prog X.w) X.A (noteFrame (.ref ea) X.env) _ _ _
    refine Sky.land Zc.steady fr2 hfr0 sky2 fun hA flA upA => ?_
    have JA : Inv X pins sv2 hp2 { sd with heap := hA } := J.landed nb flA.1 (up1.trans upA) hos hag
    obtain ⟨obA, fvA, getA, zcA, datA⟩ := flA.there
    have apart : ∀ {hh : Heap} {o : Obj} {fv : Array Value}, hh.FunFrames B (X.env :: X.outer) → hh.get? ea = some o → o.data = .fields fv → ea ∉ frs (X.env :: X.outer) := fun {hh o fv} ff e1 e2 mem => by
      obtain ⟨_, o2, e3, nope⟩ := ff.mem mem
      rw [e1] at e3
      cases e3
      exact nope _ e2
    have nfrs := apart flA.2.2.1 getA datA
    have neL : ea ≠ X.env.locals := fun z => nfrs (List.mem_filterMap.mpr ⟨X.env, List.mem_cons_self, by rw [hfr0, z]⟩)
    have neF : ea ∉ X.fs := fun mem => by
      obtain ⟨en, hen, q⟩ := List.mem_filterMap.mp mem
      exact nfrs (List.mem_filterMap.mpr ⟨en, List.mem_cons_of_mem _ hen, q⟩)
    have SA := JA.suite getA datA nea neL neF
    have LT : PySem.W.Looks (model X.prog X.w) hA (typeOf (.ref ea)) kx := fun A' Q' E' s' keep q => wpAny_typeOf_ref (keep _ _ getA) (by rw [zcA.1]; exact q)
    have seen : ∀ {nm : Str} {c : Value} {q1 : Pos} {Q E : Value → Shared → Prop}, Names X nm c → Q c { sd with heap := hA } → wpAny (model X.prog X.w) (X.A.mark (some (.ref ea))) (eval (.Name nm q1) X.env) Q E { sd with heap := hA } := fun {nm c q1 Q E} hc q => by
      obtain ⟨hg, hdbg, hm | ⟨hm, hv, hnn⟩⟩ := hc
      · exact ld_glob (X := X.suite ea ((ea, obA) :: (X.pn ++ pins))) SA hg hm q hdbg
      · exact ld_blt (X := X.suite ea ((ea, obA) :: (X.pn ++ pins))) SA hg hm hv q hnn hdbg
    have all : ∀ {hs2 : List ExceptHandler} {us2 : List (Value × Ask)}, Mix X hs2 us2 → askAll X.K W0 D us2 kx dx sv2 hp2 → wpAny (model X.prog X.w) X.A (handleBy (.ref ea) X.env hs2) (SP X pins D) X.xe { sd with heap := hA } := by
      intro hs2 us2 mm
      induction mm with
      | nil =>
        intro w2
        refine wpAny_handleBy_nil ?_
        obtain ⟨k1, k2, k3, ob2, fv2, T2, oT2, ts2, get2, zc2, dat2, at1, rest⟩ := id flA
        unfold PySem.passOn
        refine wpAny_bind (wpAny_field get2 dat2 at1 ?_)
        rw [if_neg (show ¬ ((Value.ref T2 == Value.none) = true) from by simp)]
        have last : wpAny (model X.prog X.w) X.A (setFlight (.ref ea) X.env.frame) (fun _ sg => wpAny (model X.prog X.w) X.A (throw (.ref ea) : Sem Flow) (SP X pins D) X.xe sg) X.xe { sd with heap := hA } := by
          rw [hfr0]
          refine HandSPX.setFlight_upZ flA fun hB flB upB => wpAny_throw (tk _ _ ?_)
          exact ⟨ea, B, sI, pins, sv2, hp2, kx, dx, rfl, J, nb, (up1.trans upA).trans upB, .inr (.inr (by rw [hst]; exact flB)), nea, hos, hag, w2⟩
        first
          | exact wpAny_bind (wpAny_pure (wpAny_bind last))
          | exact wpAny_bind last
      | @bare nm c ts fst su q1 q2 hl2 ul2 gc gs more ih =>
        intro w2
        obtain ⟨b, hb, yes, no⟩ := w2
        refine wpAny_handleBy_cons (codeAny_handlers_test ?_) (fun q => nomatch q)
        refine seen gc ((PySem.W.exm_one (M := model X.prog X.w) JA.kIn LT hb).here ?_)
        cases b with
        | true =>
          refine codeAny_handlers_suite ?_
          refine HandSPX.lands_againZ flA fun hB flB upB => ?_
          have JB : Inv X pins sv2 hp2 { sd with heap := hB } := J.landed nb flB.1 ((up1.trans upA).trans upB) hos hag
          obtain ⟨obB, fvB, getB, zcB, datB⟩ := flB.there
          have SB := JB.suite getB datB nea neL neF
          refine wpAny_mono ((gs ea obB kx dx (X.pn ++ pins) zcB ⟨_, datB⟩).run [] _ _ hp2 _ SB (yes rfl ea nea)) (fun f3 s3 hs3 => ?_) (fun _ _ z => False.elim z)
          cases f3 with
          | next => obtain ⟨sv3, hp3, S3, q3⟩ := hs3; exact ⟨_, _, S3.unsuite okx, q3⟩
          | brk => obtain ⟨sv3, hp3, S3, q3⟩ := hs3; exact ⟨_, _, S3.unsuite okx, q3⟩
          | cont => obtain ⟨sv3, hp3, S3, q3⟩ := hs3; exact ⟨_, _, S3.unsuite okx, q3⟩
          | ret u3 => obtain ⟨v3, sv3, hp3, S3, r3, q3⟩ := hs3; exact ⟨_, _, _, S3.unsuite okx, r3, q3⟩
        | false =>
          show wpAny _ X.A (handleBy (.ref ea) X.env hl2) _ _ _
          exact ih (no rfl)
      | @named nm vn i c ts fst su q1 q2 hl2 ul2 gc gi gl gs more ih =>
        intro w2
        obtain ⟨b, hb, yes, no⟩ := w2
        refine wpAny_handleBy_cons (codeAny_handlers_test ?_) (fun q => nomatch q)
        refine seen gc ((PySem.W.exm_one (M := model X.prog X.w) JA.kIn LT hb).here ?_)
        cases b with
        | true =>
          refine codeAny_handlers_suite_as ?_
          refine HandSPX.lands_againZ flA fun hB flB upB => ?_
          have JB : Inv X pins sv2 hp2 { sd with heap := hB } := J.landed nb flB.1 ((up1.trans upA).trans upB) hos hag
          obtain ⟨obB, fvB, getB, zcB, datB⟩ := flB.there
          have SB := JB.suite getB datB nea neL neF
          refine store_ok (X := X.suite ea ((ea, obB) :: (X.pn ++ pins))) (v := .ref ea) SB nd gi (show Loc X.env.scope vn from .inl gl) rfl (fun sC SC => ?_) (.inr gl)
          refine wpAny_mono ((gs ea obB kx dx (X.pn ++ pins) zcB ⟨_, datB⟩).run [] sC _ hp2 _ SC (yes rfl ea nea)) (fun f3 s3 hs3 => ?_) (fun _ _ z => False.elim z)
          have off : ∀ {sv3 : L2.St} {hp3 : Hp} {Q3 : Shared → Prop}, Inv (X.suite ea ((ea, obB) :: (X.pn ++ pins))) [] sv3 hp3 s3 → (∀ s7, Inv X pins (sv3.set i none) hp3 s7 → Q3 s7) →
              wpAny (model X.prog X.w) X.A (do bindName X.env vn .none; unbindBehindTheSuite X.env vn q2) (fun _ s7 => Q3 s7) X.xe s3 := fun {sv3 hp3 Q3} S3 q3 => gone_ok (S3.unsuite okx) nd gi gl q3
          cases f3 with
          | next => obtain ⟨sv3, hp3, S3, q3⟩ := hs3; exact off S3 fun s7 J7 => ⟨_, _, J7, q3⟩
          | brk => obtain ⟨sv3, hp3, S3, q3⟩ := hs3; exact off S3 fun s7 J7 => ⟨_, _, J7, q3⟩
          | cont => obtain ⟨sv3, hp3, S3, q3⟩ := hs3; exact off S3 fun s7 J7 => ⟨_, _, J7, q3⟩
          | ret u3 => obtain ⟨v3, sv3, hp3, S3, r3, q3⟩ := hs3; exact off S3 fun s7 J7 => ⟨_, _, _, J7, r3, q3⟩
        | false =>
          show wpAny _ X.A (handleBy (.ref ea) X.env hl2) _ _ _
          exact ih (no rfl)
    exact all mx asked
  · cases fl with
    | next => obtain ⟨sv3, hp3, J3, q3⟩ := hsp; exact wpAny_execs_nil ⟨sv3, hp3, J3.ofTry okx, q3⟩
    | brk => obtain ⟨sv3, hp3, J3, q3⟩ := hsp; exact ⟨sv3, hp3, J3.ofTry okx, q3⟩
    | cont => obtain ⟨sv3, hp3, J3, q3⟩ := hsp; exact ⟨sv3, hp3, J3.ofTry okx, q3⟩
    | ret u3 => obtain ⟨v3, sv3, hp3, J3, r3, q3⟩ := hsp; exact ⟨v3, sv3, hp3, J3.ofTry okx, r3, q3⟩
end
end Dn

namespace Dn
open PySem PySem.Spec PyProof.Rows L2
/-! ### a def -/
def startW (N : Nat) (ws : List Dt) : Env := ws.map some ++ List.replicate (N - ws.length) none
theorem start_rp {K : Frg} {P : Hid} {S : Store} {H : Hp} {N : List Str} {ws : List Dt} {vs : List V} (r : RpL K P S H ws vs) : RpS K P S H (startW N.length ws) (L2.start N vs) := by
  unfold startW L2.start
  refine ⟨by simp [r.length], fun i w e => ?_⟩
  by_cases hi : i < ws.length
  · rw [List.getElem?_append_left (by simpa using hi), List.getElem?_map] at e
    cases q : ws[i]? with
    | none => rw [q] at e; cases e
    | some z =>
      rw [q] at e
      cases e
      obtain ⟨v, ev, rv⟩ := r.get q
      refine ⟨v, ?_, rv⟩
      rw [List.getElem?_append_left (by rw [List.length_map, ← r.length]; exact hi), List.getElem?_map, ev]
      rfl
  · rw [List.getElem?_append_right (by simpa using hi)] at e
    have := List.mem_of_getElem? e
    rw [List.mem_replicate] at this
    cases this.2
section
variable {P : Program} {w : World} {K : PySem.W.Frag} {mg : Str → Option Value} {base : Heap}
theorem ok_w {x qual : Str} {st : Stmt} {f : Addr} {fd : FuncData} {N ps : List Str} {k n : Nat} (F : L2.Fun K x qual st f fd) (Sc : FnScope N ps (defScope st)) (G : Fw) (hn : ps.length = n)
    (hbody : ∀ (cdv : Value) (A : Around) (outer : List PySem.Env) (s : Shared) (H : Hp) (E : XK), Room k (A.deeper (envOfC qual (defScope st) s.heap.objs.size f cdv)) →
      ∃ m, JSs (cxOf (L2.CX P w) P w K mg base N qual (defScope st) f cdv A outer s H E) (fun c d _ H' => E c d H') (defBody st) m ∧
        ∀ (ws : List Dt) (S : Store) (Q : Dt → Store → Prop) (Ex : Exn → Store → Prop), ws.length = n → G ws S Q Ex →
          m ⟨fun _ S' => clo Q .non S', clo Q, fun _ _ => False, fun _ _ => False, fun x _ S' => clX Ex x S'⟩ (startW N.length ws) S) :
    FnOk P w K mg base (L2.CX P w) (k + 1) f fd ps (spOf K n G) := by
  refine F.okX Sc (fun vs H Q E h => by rw [hn]; exact h.1) (fun cdv A outer s H vs Q E hr h => ?_)
  obtain ⟨m, hm, hg⟩ := hbody cdv A outer s H E hr
  obtain ⟨hl, P0, S, ws, Qw, Ew, W, rl, g, nq, nx⟩ := h
  refine ⟨_, hm, P0, S, startW N.length ws, _, W, start_rp rl, hg ws S Qw Ew (by rw [rl.length]; exact hl) g, ⟨fun σv' H' σ' S' W' r' e' q' => ?_, nq.clo, fun _ _ _ _ _ _ _ q => q.elim, fun _ _ _ _ _ _ _ q => q.elim, fun c d σv' H' x σ' S' W' rx r' e' q' => nx.clo c d H' x S' W' rx e' q'⟩⟩
  exact nq.clo .non H' .non S' W' rpNon e' q'
theorem FnOk.impW {k n : Nat} {f : Addr} {fd : FuncData} {ps : List Str} {G G' : Fw} {CX : CXT} (F : FnOk P w K mg base CX k f fd ps (spOf K n G)) (h : ∀ ws S Q Ex, ws.length = n → G' ws S Q Ex → G ws S Q Ex) : FnOk P w K mg base CX k f fd ps (spOf K n G') :=
  F.imp fun vs H Q E ⟨hl, P0, S, ws, Qw, Ew, W, rl, g, nq, nx⟩ => ⟨hl, P0, S, ws, Qw, Ew, W, rl, h ws S Qw Ew (by rw [rl.length]; exact hl) g, nq, nx⟩
end
/-! ### raise -/
section
variable {X : Cx} {E : WX}
abbrev MR := Env → Store → (Exn → Store → Prop) → (Exn → Store → Prop) → Prop
def rdR (K : Frg) (E : WX) (m : MR) : L2.St → Hp → XK → Prop := fun σv H Qx => ∃ P S σ Q Ex, Wd K P S H ∧ RpS K P S H σ σv ∧ m σ S Q Ex ∧ NX K P S H Q Qx ∧ NX K P S H Ex (fun c d H' => E c d σv H')
def JR (X : Cx) (E : WX) (e : Expr) (m : MR) : Prop := PMk X e (rdR X.K E m)
def mRaise (m : MR) : MS := fun D σ S => m σ S (fun x S' => D.ex x σ S') (fun x S' => D.ex x σ S')
theorem js_raise {e : Expr} {m : MR} {pos : Pos} (hc : X.calm = true) (tk : Takes X E) (h : JR X E e m) : JS X E (.Raise (some e) none pos) (mRaise m) := PS.weak (ps_raise hc tk h) fun σv H D q => by
  obtain ⟨P, S, σ, Dw, W, r, m, d⟩ := q
  exact ⟨P, S, σ, _, _, W, r, m, d.ex.at r, d.ex.at r⟩
/-- C(), C an own exception class without own __init__ -/
theorem pmk_own0 {C : Addr} {bmB : List Value} {B newId initId : String} {x : Str} {p pos : Pos} (F : ExcBaseFacts B newId initId bmB) (q : PySem.W.excIn X.K C bmB newId = true) (gC : X.mg x = some (.ref C)) (kC : PySem.W.keepIn X.K (.ref C) = true) (r : Raises X (.ref C)) (hg : Gl X x)
    (hdb : (x == ("__debug__" : Str)) = false := by decide) : PMk X (.Call (.Name x p) [] [] pos) (fun _ H Q => Q (.ref C) none H) := by
  intro pins s σ H Q I h
  refine wpAny_Call_Name_kw (ld_glob I hg gC ?_ hdb)
  refine PySem.W.callWith_K0 I.kIn kC ?_
  obtain ⟨bm, N, nm, qn, bs, hdct, sn, sub, ab, col, dd, k0, k1, k2, k3, k5, mN, hC, hN, hni, T⟩ := exc_obj I.kIn q
  refine wpAny_call_exc_subT F T hC hN hni (fun h' e hm => ?_) (by show 0 ≤ sizeLine; rw [sizeLine_eq]; omega)
  exact mk_of I hm r h (I.hok.gone hm.new)
def mExc0 (C : Addr) : MR := fun _ S Q _ => Q ⟨.ref C, none⟩ S
theorem jr_own0 {C : Addr} {e : Expr} (h : PMk X e (fun _ H Q => Q (.ref C) none H)) : JR X E e (mExc0 C) := fun pins s σ H Q I q => by
  refine h pins s σ H Q I ?_
  obtain ⟨P, S, σ, Qw, Ex, W, r, m, nq, nx⟩ := q
  exact nq (.ref C) none H ⟨.ref C, none⟩ S W ⟨rfl, rfl⟩ Evo.refl m
/-- what the walk asks of an exception class without fields: it stands at C; what it makes may be raised -/
structure Exc0 (K : Frg) (mg : Str → Option Value) (x : Str) (C : Addr) : Prop where
  gC : mg x = some (.ref C)
  xC : PySem.W.excIn K C [.type "ValueError", .type "Exception", .type "BaseException", .type "object"] "ValueError.__new__" = true
  kC : PySem.W.keepIn K (.ref C) = true
  bC : PySem.W.subIn K (.ref C) (.type "BaseException") = some true
  tC : PySem.W.typeIn K (.ref C) = some (.type "type")
theorem jr_exc0 {x : Str} {C : Addr} {p pos : Pos} (T : Exc0 X.K X.mg x C) (hg : Gl X x) (hdb : (x == ("__debug__" : Str)) = false := by decide) : JR X E (.Call (.Name x p) [] [] pos) (mExc0 C) :=
  jr_own0 (pmk_own0 PySem.F.excBase_ValueError T.xC T.gC T.kC (raises_own T.bC T.tC) hg hdb)
/-! ### try -/
def handleW (K : Frg) : List (Value × (Exn → MS)) → Exn → MS
  | [], x => fun D σ S => D.ex x σ S
  | (c, ms) :: r, x => fun D σ S => ∃ b, PySem.W.exmOne K x.cls c = some b ∧ (b = true → ms x { D with ex := fun _ _ _ => False } σ S) ∧ (b = false → handleW K r x D σ S)
def mTry (K : Frg) (mb : MS) (hs : List (Value × (Exn → MS))) : MS := fun D σ S => mb { D with ex := fun x σ' S' => handleW K hs x D σ' S' } σ S
theorem RpS.forget {K : Frg} {P : Hid} {S : Store} {H : Hp} {σ : Env} {σv : L2.St} (h : RpS K P S H σ σv) (i : Nat) : RpS K P S H (σ.set i none) (σv.set i none) := by
  refine ⟨by rw [List.length_set, List.length_set]; exact h.1, fun j z q => ?_⟩
  by_cases e : i = j
  · subst e
    by_cases l : i < σ.length
    · rw [List.getElem?_set_self l] at q; cases q
    · rw [List.getElem?_eq_none (by rw [List.length_set]; omega)] at q; cases q
  · rw [List.getElem?_set_ne e] at q ⊢
    exact h.2 j z q
/-- a clause with a name: in slot i the exception with its fields -/
def mAs (i : Nat) (ms : Addr → Value → Option Addr → MS) : Exn → MS := fun x D σ S => ∃ ns ws, x.fs = some (ns, ws) ∧
  ∀ a dd, ms a x.cls (some dd) ⟨fun σ' S' => D.nx (σ'.set i none) S', D.rt, fun σ' S' => D.bk (σ'.set i none) S', fun σ' S' => D.ct (σ'.set i none) S', D.ex⟩ (σ.set i (some (.exn a dd ns ws))) S
abbrev NoX : WX := fun _ _ _ _ => False
inductive JH (X : Cx) : List ExceptHandler → List (Value × (Exn → MS)) → List (Value × Ask) → Prop
  | nil : JH X [] [] []
  | cons {x : Str} {c : Value} {ms : MS} {b₀ : Stmt} {suite : List Stmt} {np pos' : Pos} {hds : List ExceptHandler} {l : List (Value × (Exn → MS))} {t : List (Value × Ask)} (hc : Names X x c)
      (hsu : ∀ (a : Addr) (oe : Obj) (pn : List (Addr × Obj)), JSs (X.suite a ((a, oe) :: pn)) NoX (b₀ :: suite) ms) (r : JH X hds l t) :
      JH X (.ExceptHandler (some (.Name x np)) none (b₀ :: suite) pos' :: hds) ((c, fun _ => ms) :: l) ((c, fun D _ _ _ σv H => rdS X.K NoX ms D σv H) :: t)
  | named {x n : Str} {i : Nat} {c : Value} {ms : Addr → Value → Option Addr → MS} {b₀ : Stmt} {suite : List Stmt} {np pos' : Pos} {hds : List ExceptHandler} {l : List (Value × (Exn → MS))} {t : List (Value × Ask)} (hc : Names X x c) (gi : X.N[i]? = some n) (gl : X.env.kindOf n = some .local)
      (hsu : ∀ (a : Addr) (oe : Obj) (cls : Value) (d : Option Addr) (pn : List (Addr × Obj)), Zc cls d oe → (∃ fv, oe.data = .fields fv) → JSs (X.suite a ((a, oe) :: pn)) NoX (b₀ :: suite) (ms a cls d)) (r : JH X hds l t) :
      JH X (.ExceptHandler (some (.Name x np)) (some n) (b₀ :: suite) pos' :: hds) ((c, mAs i ms) :: l) ((c, fun D ea kx dx σv H => rdS X.K NoX (ms ea kx dx) (endsOff D i) (σv.set i (some (.ref ea))) H) :: t)
theorem JH.ok {hds : List ExceptHandler} {l : List (Value × (Exn → MS))} {t : List (Value × Ask)} (h : JH X hds l t) : Mix X hds t := by
  induction h with
  | nil => exact .nil
  | @cons x c ms b₀ suite np pos' hds l t hc hsu r ih => exact .bare (ts := fun _ _ _ => rdS X.K NoX ms) hc (fun a oe cls d pn _ _ => hsu a oe pn) ih
  | @named x n i c ms b₀ suite np pos' hds l t hc gi gl hsu r ih => exact .named (ts := fun ea kx dx => rdS X.K NoX (ms ea kx dx)) hc gi gl (fun a oe cls d pn z1 z2 => hsu a oe cls d pn z1 z2) ih
theorem JH.wish {hds : List ExceptHandler} {l : List (Value × (Exn → MS))} {t : List (Value × Ask)} (h : JH X hds l t) {P : Hid} {S : Store} {H : Hp} {σ : Env} {σv : L2.St} {Dw : EndsW} {D : Ends} {x : Exn} {cls : Value} {d : Option Addr}
    (W : Wd X.K P S H) (r : RpS X.K P S H σ σv) (rx : RpX X.K P S H x cls d) (dk : DOk X.K P S H Dw D E) (q : handleW X.K l x Dw σ S) : askAll X.K E D t cls d σv H := by
  induction h with
  | nil => exact dk.ex cls d σv H x σ S W rx r Evo.refl q
  | cons hc hsu r' ih =>
    obtain ⟨b, hb, h1, h2⟩ := q
    refine ⟨b, by rw [rx.1]; exact hb, fun e a _ => ?_, fun e => ih (h2 e)⟩
    exact ⟨P, S, σ, _, W, r, h1 e, ⟨dk.nx, dk.rt, dk.bk, dk.ct, fun _ _ _ _ _ _ _ _ _ _ _ q => q.elim⟩⟩
  | @named x1 n i c ms b₀ suite np pos' hds l t hc gi gl hsu r' ih =>
    obtain ⟨b, hb, h1, h2⟩ := q
    refine ⟨b, by rw [rx.1]; exact hb, fun e a _ => ?_, fun e => ih (h2 e)⟩
    obtain ⟨ns, ws, ef, m⟩ := h1 e
    obtain ⟨c1, fs⟩ := x
    cases ef
    obtain ⟨e1, dd, xs, e2, f, z, rl⟩ := rx
    cases e1
    subst e2
    exact ⟨P, S, _, _, W, r.set (w := .exn a dd ns ws) (v := .ref a) (by unfold Rp; exact ⟨xs, rfl, f, z, rl⟩), m a dd,
      ⟨fun σv' H' σ' S' W' r' e' q' => dk.nx _ H' _ S' W' (r'.forget i) e' q', dk.rt, fun σv' H' σ' S' W' r' e' q' => dk.bk _ H' _ S' W' (r'.forget i) e' q', fun σv' H' σ' S' W' r' e' q' => dk.ct _ H' _ S' W' (r'.forget i) e' q',
        fun _ _ _ _ _ _ _ _ _ _ _ q => q.elim⟩⟩
theorem js_try {body : List Stmt} {h0 : ExceptHandler} {hds : List ExceptHandler} {mb : MS} {l : List (Value × (Exn → MS))} {t : List (Value × Ask)} {pos : Pos} (hs : X.stack = X.env :: X.outer) (hf : X.env.frame = some X.env.locals) (nd : X.N.Nodup) (tk : Takes X E)
    (hb : ∀ (W : WX) (pn : List (Addr × Obj)) (xe : Value → Shared → Prop), Takes (X.tr pn xe) W → PassesOwn (model X.prog X.w) X.A X.env xe → JSs (X.tr pn xe) W body mb) (hh : JH X (h0 :: hds) l t) : JS X E (.Try body (h0 :: hds) [] [] pos) (mTry X.K mb l) :=
  PS.weak (ps_try_mix (tb := fun W => rdS X.K W mb) hs hf nd tk (fun W pn xe h1 h2 => hb W pn xe h1 h2) hh.ok) fun σv H D q => by
    obtain ⟨P, S, σ, Dw, W, r, m, d⟩ := q
    refine ⟨P, S, σ, _, W, r, m, ⟨d.nx, d.rt, d.bk, d.ct, fun cls dd σv' H' x σ' S' W' rx r' e' q' => ?_⟩⟩
    exact hh.wish W' r' rx (d.after e') q'
/-- err.f in the suite of a clause with a name -/
def mXf (a : Addr) (cls : Value) (d : Option Addr) (C : Addr) (f : Str) (me : ME) : ME := fun σ S Q Ex => me σ S (fun w S1 => match w with
  | .exn a' dd ns ws => a' = a ∧ cls = .ref C ∧ d = some dd ∧ ∃ u, (ns.zip ws).lookup f = some u ∧ Q u S1
  | _ => False) Ex
theorem zip_at {K : Frg} {P : Hid} {S : Store} {H : Hp} {f : Str} {u : Dt} : ∀ {ns : List Str} {ws : List Dt} {xs : List V}, RpL K P S H ws xs → (ns.zip ws).lookup f = some u → ∃ v, (ns.zip xs).lookup f = some v ∧ Rp K P S H u v
  | [], ws, xs, r, h => by cases h
  | n :: ns, [], xs, r, h => by cases h
  | n :: ns, w :: ws, xs, r, h => by
    unfold RpL at r
    obtain ⟨v, rr, rfl, r1, r2⟩ := r
    rw [List.zip_cons_cons, List.lookup_cons] at h ⊢
    cases e : f == n with
    | true =>
      rw [e] at h
      cases h
      exact ⟨v, rfl, r1⟩
    | false =>
      rw [e] at h
      exact zip_at r2 h
theorem je_xf {a C : Addr} {oe : Obj} {cls : Value} {d : Option Addr} {pn : List (Addr × Obj)} {e : Expr} {me : ME} {pos : Pos} {n : Str} {E : WX} (T : XfC X.K C) (hno : PySem.W.findIn X.K (.ref C) n = some none) (hz : Zc cls d oe) (hf : ∃ fv, oe.data = .fields fv)
    (he : JE (X.suite a ((a, oe) :: pn)) E e me) (hb : attributeBase e n X.env (eval e X.env) = eval e X.env := by rfl) : JE (X.suite a ((a, oe) :: pn)) E (.Attribute e n pos) (mXf a cls d C n me) :=
  PE.weak (pe_xf T hno hz hf he hb) fun σv H Qv q => by
    obtain ⟨P, S, σ, Q, Ex, W, r, m, nq, nx⟩ := q
    refine ⟨P, S, σ, _, Ex, W, r, m, fun v H' w S' W' r' e' q' => ?_, nx⟩
    cases w with
    | exn a' dd ns ws =>
      obtain ⟨e1, e2, e3, u, l, q⟩ := (q' : a' = a ∧ cls = .ref C ∧ d = some dd ∧ ∃ u, (ns.zip ws).lookup n = some u ∧ Q u S')
      unfold Rp at r'
      obtain ⟨xs, ev, f, z, rl⟩ := r'
      obtain ⟨v2, l2, rv⟩ := zip_at rl l
      exact ⟨by rw [ev, e1], e2, dd, _, v2, e3, f.1, l2, nq v2 H' u S' W' rv e' q⟩
    | _ => exact (show False from q').elim
/-- an own exception class whose __init__ keeps one field -/
structure Exc1 (P : Program) (w : World) (K : Frg) (mg : Str → Option Value) (base : Heap) (x f : Str) (C : Addr) : Prop where
  gC : mg x = some (.ref C)
  oC : OexC K C
  fC : XfC K C
  no : PySem.W.findIn K (.ref C) f = some none
  ini : ∃ (fI : Addr) (fd : FuncData), PySem.W.findIn K (.ref C) "__init__" = some (some (.ref fI)) ∧ PySem.W.typeIn K (.ref fI) = some (.type "function") ∧ Binds K fd ["self", f] [] ∧
    FnOk P w K mg base (L2.CX P w) 1 fI fd ["self", f] (fun vs H Q _ => ∃ a y, vs = [.ref a, y] ∧ H a = some (exo a C none) ∧ ∀ d, H d = none → d ≠ a → Q .non (upd (upd H d (exd d [(f, y)])) a (exo a C (some d))))
def mExc1 (C : Addr) (f : Str) (me : ME) : MR := fun σ S Q Ex => me σ S (fun w S1 => Q ⟨.ref C, some ([f], [w])⟩ S1) Ex
theorem cx_none {P : Program} {w : World} {fs : List PySem.Env} {H : Hp} {s : Shared} {e : Value} {s' : Shared} (h : L2.CX P w fs H s (fun _ _ _ => False) e s') : False := by
  obtain ⟨_, _, _, _, _, _, _, _, _, _, _, _, z⟩ := h
  exact z
theorem jr_exc1 {x f : Str} {C : Addr} {p pos : Pos} {e : Expr} {me : ME} (T : Exc1 X.prog X.w X.K X.mg X.base x f C) (hr : Room 2 X.A) (hg : Gl X x) (he : JE X E e me)
    (hdb : (x == ("__debug__" : Str)) = false := by decide) (hs : starEach [e] X.env = (false, eval e X.env) :: starEach [] X.env := by rfl) (hpl : (backTo pos (starEach [] X.env)).any (·.1) = false := by rfl) :
    JR X E (.Call (.Name x p) [e] [] pos) (mExc1 C f me) := fun pins s σv H Qx I q => by
  obtain ⟨fI, fd, iC, tI, hb, F1⟩ := T.ini
  refine pmk_oex T.oC iC tI F1 hr hb (dvs := []) .nil (fun _ _ _ _ er s' _ c => (cx_none c).elim) hg T.gC (ja_cons he ja_nil hs) hdb hs hpl pins s σv H Qx I ?_
  obtain ⟨P, S, σ, Q, Ex, W, r, m, nq, nx⟩ := q
  refine ⟨P, S, σ, fun ws S1 => match ws with
    | [w] => Q ⟨.ref C, some ([f], [w])⟩ S1
    | _ => False, Ex, W, r, m, ?_, nx⟩
  intro vs H1 ws S1 W1 rl e1 q1
  match ws, q1 with
  | [w], q =>
    unfold RpL at rl
    obtain ⟨v, rr, rfl, rv, rl⟩ := rl
    unfold RpL at rl
    subst rl
    refine ⟨by show 1 ≤ 1000; decide, fun a ha => ⟨a, v, rfl, upd_same, fun d hd nd => ⟨rfl, d, [(f, v)], upd_same, by rw [upd_ne nd, upd_same], by rw [upd_ne nd] at hd; exact hd, ?_⟩⟩⟩
    have hd1 : H1 d = none := by rw [upd_ne nd] at hd; exact hd
    have eh : upd (L2.del (upd (upd (upd H1 a (exo a C none)) d (exd d [(f, v)])) a (exo a C (some d))) a) d (.xd [(f, v)]) = upd H1 d (.xd [(f, v)]) := by
      funext b
      by_cases h1 : b = d
      · rw [h1, upd_same, upd_same]
      · rw [upd_ne h1, upd_ne h1]
        by_cases h2 : b = a
        · rw [h2, L2.del_same, ha]
        · rw [L2.del_ne h2, upd_ne h2, upd_ne h1, upd_ne h2]
    rw [eh]
    exact nq _ _ _ ⟨.ref C, some ([f], [w])⟩ S1 (W1.new hd1) ⟨rfl, d, [v], rfl, Fz.new W1 hd1, rfl, .cons (rv.mono (Evo.new hd1)) .nil⟩ (e1.trans (Evo.new hd1)) q
/-! ### list comprehensions -/
def wipeW (σ : Env) : List Nat → Env
  | [] => σ
  | v :: vs => (wipeW σ vs).set v none
theorem RpS.wipe {K : Frg} {P : Hid} {S : Store} {H : Hp} {σ : Env} {σv : L2.St} (h : RpS K P S H σ σv) : ∀ vs : List Nat, RpS K P S H (wipeW σ vs) (L2.wipe σv vs)
  | [] => h
  | v :: vs => (RpS.wipe h vs).forget v
/-- the target of a comprehension: names -/
abbrev BW := Dt → Env → Option Env
def Binds1 (K : Frg) (g : TG) (vs : List Nat) (b : BW) : Prop := ∀ (P : Hid) (S : Store) (H : Hp) (w : Dt) (v : V) (σ σ' : Env) (σv : L2.St) (R : L2.St → Hp → Prop), Wd K P S H → RpS K P S H σ σv → Rp K P S H w v → b w (wipeW σ vs) = some σ' →
  (∀ σv', RpS K P S H σ' σv' → L2.wipe σv' vs = L2.wipe σv vs → R σv' H) → g v (L2.wipe σv vs) H R
def bName (i : Nat) : BW := fun w σ => some (σ.set i (some w))
def bPair (i j : Nat) : BW := fun w σ => match w with
  | .tup [a, b] => some ((σ.set i (some a)).set j (some b))
  | _ => none
theorem binds_name {K : Frg} {i : Nat} : Binds1 K (gName i) [i] (bName i) := fun P S H w v σ σ' σv R W r rw' e k => by
  cases e
  refine k _ ((r.wipe [i]).set rw') ?_
  show (((σv.set i none).set i (some v)).set i none) = σv.set i none
  rw [List.set_set, List.set_set]
theorem binds_pair {K : Frg} {i j : Nat} (h : i ≠ j) : Binds1 K (gTup K 2 (gCons (gName i) (gCons (gName j) gNil))) [i, j] (bPair i j) := fun P S H w v σ σ' σv R W r rw' e k => by
  unfold bPair at e
  split at e
  · rename_i a b
    cases e
    obtain ⟨p, xs, rfl, h1, rl⟩ := rp_tup rw'
    obtain ⟨x, y, rfl, ra, rb⟩ := rl.two
    refine ⟨p, _, rfl, h1, rfl, x, [y], rfl, y, [], rfl, rfl, ?_⟩
    refine k _ (((r.wipe [i, j]).set ra).set rb) ?_
    show (((((σv.set j none).set i none).set i (some x)).set j (some y)).set j none).set i none = (σv.set j none).set i none
    rw [List.set_set, List.set_set, List.set_comm _ _ (Ne.symm h), List.set_set, List.set_comm _ _ h, List.set_set, List.set_comm _ _ (Ne.symm h)]
  · cases e
def JTs (X : Cx) (E : WX) (es : List Expr) (m : MT) : Prop := PTs X es (rdT X.K E m)
def mYes : MT := fun _ S Q _ => Q true S
theorem jts_nil : JTs X E [] mYes := ⟨fun pins s σv H Qv I q => by
  obtain ⟨P, S, σ, Q, Ex, W, r, m, nq, nx⟩ := q
  exact pts_nil.run pins s σv H Qv I (nq true H S W Evo.refl m)⟩
theorem jts_one {e : Expr} {m : MT} (h : JT X E e m) : JTs X E [e] m := pts_one h
def compW (b : BW) (mt : MT) (me : ME) (σ : Env) (vs : List Nat) (gd : Store → Prop) (Q : List Dt → Store → Prop) : List Dt → List Dt → Store → Prop
  | [], acc, S => gd S ∧ Q acc S
  | w :: ws, acc, S => gd S ∧ match b w (wipeW σ vs) with
    | some σ1 => mt σ1 S (fun c S2 => br c (me σ1 S2 (fun y S3 => acc.length < sizeLine ∧ compW b mt me σ vs gd Q ws (acc ++ [y]) S3) (fun _ _ => False)) (compW b mt me σ vs gd Q ws acc S2)) (fun _ _ => False)
    | none => False
def mComp (mi : MI) (b : BW) (mt : MT) (me : ME) (vs : List Nat) : ML := fun σ S Q Ex => mi σ S (fun ws gd S1 => compW b mt me σ vs gd Q ws [] S1) Ex
def hdel (H : Hp) (a : Addr) : Hp := fun b => if b = a then none else H b
theorem comp_weak {K : Frg} {mi : MI} {g : TG} {b : BW} {mt : MT} {me : ME} {vs : List Nat} (hb : Binds1 K g vs b) {σv : L2.St} {H : Hp} {Qv : VK} (h : rdL K E (mComp mi b mt me vs) σv H Qv) :
    tLc (rdI K E mi) g (rdT K (fun _ _ _ _ => False) mt) (rdE K (fun _ _ _ _ => False) me) vs σv H Qv := by
  obtain ⟨P, S, σ, Q, Ex, W, r, m, nl, nx⟩ := h
  refine ⟨P, S, σ, _, Ex, W, r, m, fun J H1 ws gd S1 W1 e1 dl m1 => ?_, nx⟩
  intro Dl hD
  have fr := W1.free hD
  have hp : ∀ b, (P b ∨ b = Dl) → P b ∨ H1 b = none := fun b h => h.imp id fun z => by rw [z]; exact hD
  have nD : ∀ {a o}, H1 a = some o → a ≠ Dl := fun h z => by rw [z, hD] at h; cases h
  refine ⟨fun i k H2 => ∃ S2 us acc xs, Wd K (fun b => P b ∨ b = Dl) S2 H2 ∧ Evo S1 H1 S2 H2 ∧ H2 Dl = some (.lst xs) ∧ RpL K (fun b => P b ∨ b = Dl) S2 H2 acc xs ∧ us = ws.drop i ∧ k = us.length ∧ i ≤ ws.length ∧ compW b mt me σ vs gd Q us acc S2, ⟨ws.length, S1, ws, [], [], ?_, Evo.new hD, upd_same, RpL.nil, rfl, rfl, Nat.zero_le _, m1⟩, ?_⟩
  · refine ⟨fun a o e => ?_, fun a q => ?_⟩
    · refine (W1.sim a o e).conv (fun a' o' h' n' p' => ⟨by rw [upd_ne (nD h')]; exact h', n', fun q => q.elim p' fun z => nD h' z⟩) (fun u hu => by rw [upd_ne (nD hu)]; exact hu)
    · rcases q with q | q
      · obtain ⟨h1, u, h2⟩ := W1.hid a q
        exact ⟨h1, u, by rw [upd_ne (nD h2)]; exact h2⟩
      · rw [q]; exact ⟨fr.1, _, upd_same⟩
  · rintro i k H2 ⟨S2, us, acc, xs, W2, e2, hx, rl, eu, ek, hi, f⟩
    have sD : S2 Dl = none := (W2.hid Dl (.inr rfl)).1
    cases us with
    | nil =>
      unfold compW at f
      have hl : ws.length ≤ i := by
        have := congrArg List.length eu
        simp at this
        omega
      refine .inl ⟨(dl _ S2 H2 i hp W2 e2 f.1).2 hl, ?_⟩
      have dn : ∀ {a : Addr}, a ≠ Dl → hdel H2 Dl a = H2 a := fun {a} z => by unfold hdel; rw [if_neg z]
      have c : ∀ a o, H2 a = some o → S2 a = none → ¬ (P a ∨ a = Dl) → hdel H2 Dl a = some o ∧ S2 a = none ∧ ¬ P a := fun a o h n q => ⟨by rw [dn fun z => q (.inr z)]; exact h, n, fun z => q (.inl z)⟩
      refine nl Dl (hdel H2 Dl) H2 xs acc S2 ⟨fun a o e => ?_, fun a q => ?_⟩ (by unfold hdel; rw [if_pos rfl]) ?_ (rl.conv c) (e1.trans fun a o n h => ?_) f.2
      · exact (W2.sim a o e).conv c fun u hu => by rw [dn fun z => by rw [z, sD] at e; cases e]; exact hu
      · obtain ⟨h1, u, h2⟩ := W2.hid a (.inl q)
        exact ⟨h1, u, by rw [dn fun z => fr.2 (z ▸ q)]; exact h2⟩
      · funext a
        by_cases z : a = Dl
        · rw [z, upd_same]; exact hx
        · rw [upd_ne z, dn z]
      · obtain ⟨h1, h2⟩ := e2 a o n h
        exact ⟨by rw [dn (nD h)]; exact h1, h2⟩
    | cons w us =>
      unfold compW at f
      have ew : ws[i]? = some w := by
        have := congrArg List.head? eu
        rw [List.head?_cons, List.head?_drop] at this
        exact this.symm
      have hil : i < ws.length := (List.getElem?_eq_some_iff.mp ew).1
      have eu2 : us = ws.drop (i + 1) := by
        have := congrArg List.tail eu
        rw [List.tail_cons, List.tail_drop] at this
        exact this
      obtain ⟨hgo, hy⟩ := (dl _ S2 H2 i hp W2 e2 f.1).1 w ew
      refine .inr ⟨hgo, fun H' => ∃ S3 acc' xs', Wd K (fun b => P b ∨ b = Dl) S3 H' ∧ Evo S1 H1 S3 H' ∧ H' Dl = some (.lst xs') ∧ RpL K (fun b => P b ∨ b = Dl) S3 H' acc' xs' ∧ compW b mt me σ vs gd Q us acc' S3, fun H' hN => ?_, fun x H' hx' => ?_⟩
      · obtain ⟨S3, acc', xs', W3, e3, h3, rl3, f3⟩ := hN
        exact ⟨us.length, by rw [ek, List.length_cons]; omega, S3, us, acc', xs', W3, e3, h3, rl3, eu2, rfl, hil, f3⟩
      · obtain ⟨W3, e3, r3⟩ := hy x H' hx'
        have f2 := f.2
        split at f2
        · rename_i σ1 eb
          have rs : RpS K (fun b => P b ∨ b = Dl) S2 H' σ σv := ⟨r.1, fun j z q => by
            obtain ⟨v, a, b⟩ := (r.mono e1).2 j z q
            exact ⟨v, a, rp_live hp (e2.trans e3) b⟩⟩
          refine hb _ S2 H' w x σ σ1 σv _ W3 rs r3 eb fun σv' rs' ewp => ⟨ewp, _, S2, σ1, _, _, W3, rs', f2, fun cc H4 S4 W4 e4 q4 => ?_, fun _ _ _ _ _ _ _ _ q => q.elim⟩
          have h4 : H4 Dl = some (.lst xs) ∧ S4 Dl = none := (e3.trans e4) Dl _ sD hx
          cases cc with
          | true =>
            refine ⟨_, S4, σ1, _, _, W4, rs'.mono e4, q4, fun y H5 wy S5 W5 r5 e5 q5 => ?_, fun _ _ _ _ _ _ _ _ q => q.elim⟩
            have h5 := e5 Dl _ h4.2 h4.1
            have c : ∀ a o, H5 a = some o → S5 a = none → ¬ (P a ∨ a = Dl) → upd H5 Dl (.lst (xs ++ [y])) a = some o ∧ S5 a = none ∧ ¬ (P a ∨ a = Dl) := fun a o h n q => ⟨by rw [upd_ne fun z => q (.inr z)]; exact h, n, q⟩
            refine ⟨xs, h5.1, by rw [← rl.length]; exact q5.1, S5, acc ++ [wy], xs ++ [y], ⟨fun a o e => ?_, fun a q => ?_⟩, fun a o n h => ?_, upd_same, ?_, q5.2⟩
            · exact (W5.sim a o e).conv c fun u hu => by rw [upd_ne fun z => by rw [z, h5.2] at e; cases e]; exact hu
            · by_cases z : a = Dl
              · rw [z]; exact ⟨h5.2, _, upd_same⟩
              · obtain ⟨h1, u, h2⟩ := W5.hid a q
                exact ⟨h1, u, by rw [upd_ne z]; exact h2⟩
            · obtain ⟨h1, h2⟩ := (((e2.trans e3).trans e4).trans e5) a o n h
              exact ⟨by rw [upd_ne (nD h)]; exact h1, h2⟩
            · exact ((rl.mono ((e3.trans e4).trans e5)).append (RpL.cons r5 RpL.nil)).conv c
          | false => exact ⟨S4, acc, xs, W4, (e2.trans e3).trans e4, h4.1, rl.mono (e3.trans e4), q4⟩
        · exact f2.elim
section
variable {X : Cx} {E : WX}
theorem jl_comp {elt tg iter : Expr} {ifs : List Expr} {scope : Scope} {own : List (Str × Nat)} {pos : Pos} {mi : MI} {g : TG} {b : BW} {mt : MT} {me : ME} (hc : X.calm = true) (hN : X.N.Nodup) (hi : JI X E tg iter mi) (ok : BlkOk X.N X.env.scope scope own) (hb : Binds1 X.K g (own.map (·.2)) b)
    (hg : ∀ (s : Shared) (H : Hp) (C : Addr) (cl : List (Str × Addr)) (fp : List Addr), PG (X.blk s H scope (compEnvC scope cl C X.env) fp) tg g)
    (ht : ∀ (s : Shared) (H : Hp) (C : Addr) (cl : List (Str × Addr)) (fp : List Addr), JTs (X.blk s H scope (compEnvC scope cl C X.env) fp) (fun _ _ _ _ => False) ifs mt)
    (he : ∀ (s : Shared) (H : Hp) (C : Addr) (cl : List (Str × Addr)) (fp : List Addr), JE (X.blk s H scope (compEnvC scope cl C X.env) fp) (fun _ _ _ _ => False) elt me)
    (hs : ∀ x, foldedSetIterable iter X.env x = pure x := by intro _; rfl) : JL X E (.ListComp elt [⟨tg, iter, ifs, 0⟩] scope pos) (mComp mi b mt me (own.map (·.2))) :=
  PE.weak (pe_lc (tt := rdT X.K (fun _ _ _ _ => False) mt) (te := rdE X.K (fun _ _ _ _ => False) me) hc hN hi ok hg ht he hs) fun _ _ _ q => comp_weak hb q
end
end
end Dn

namespace Dn
open PySem PySem.Spec PyProof.Rows L2 RZ
section
variable {X : Cx} {E : WX}
/-- a list, a tuple, a text: what for asks of it, by value -/
theorem it_list {pins : List (Addr × Obj)} {σ : L2.St} {H : Hp} {s : Shared} {R : It → Hp → Prop} {tg : Expr} {a : Addr} {xs : List V} (I : L2.Inv X pins σ H s) (hq : SqL X.K H a xs) (q : R (Itl X.K a) H) :
    wpAny (model X.prog X.w) X.A (pyIter (.ref a)) (PIE X pins σ tg R) X.xe s := by
  obtain ⟨its, _, p, _⟩ := I.list hq
  exact wpAny_pyIter_list p.isList (pi_one (tk := s.toks) I _ (turn_list a _) ⟨_, Heap.get?_push_size _ rfl, rfl, rfl⟩ q)
theorem it_tup {pins : List (Addr × Obj)} {σ : L2.St} {H : Hp} {s : Shared} {R : It → Hp → Prop} {tg : Expr} {a : Addr} {xs : List V} (I : L2.Inv X pins σ H s) (hq : SqT X.K H a xs) (q : R (Itt X.K a) H) :
    wpAny (model X.prog X.w) X.A (pyIter (.ref a)) (PIE X pins σ tg R) X.xe s := by
  obtain ⟨its, _, p, _⟩ := I.tuple hq
  exact wpAny_pyIter_tuple (show s.heap.IsTuple a its.toArray from p) (pi_one (tk := s.toks) I _ (turn_tuple a _) ⟨_, Heap.get?_push_size _ rfl, rfl, rfl⟩ q)
theorem it_str {pins : List (Addr × Obj)} {σ : L2.St} {H : Hp} {s : Shared} {R : It → Hp → Prop} {tg : Expr} {x : Str} {t : Tok} (I : L2.Inv X pins σ H s) (q : R (Its x) H) :
    wpAny (model X.prog X.w) X.A (pyIter (.str x t)) (PIE X pins σ tg R) X.xe s := by
  by_cases ha : x.cps.all (· < 128) = true
  · exact wpAny_pyIter_ascii ha (pi_one (tk := s.toks) I _ (turn_str _ x t _ (.inl rfl)) ⟨_, Heap.get?_push_size _ rfl, rfl, rfl⟩ q)
  · exact wpAny_pyIter_wide (by simpa using ha) (pi_one (tk := s.toks) I _ (turn_str _ x t _ (.inr rfl)) ⟨_, Heap.get?_push_size _ rfl, rfl, rfl⟩ q)
def signsW (x : Str) : List Dt := x.cps.toList.map fun c => .str ⟨#[c]⟩
def seqQ (Q : List Dt → (Store → Prop) → Store → Prop) (w : Dt) (S1 : Store) : Prop := match w with
  | .ref a => match S1 a with | some (.lst ws) => Q ws (fun S2 => S2 a = some (.lst ws)) S1 | _ => False
  | .lst ws => Q ws (fun _ => True) S1
  | .kl ws => Q ws (fun _ => True) S1
  | .tup ws => Q ws (fun _ => True) S1
  | .kt ws => Q ws (fun _ => True) S1
  | .str x => Q (signsW x) (fun _ => True) S1
  | _ => False
def mSeqI (m : ME) : MI := fun σ S Q Ex => m σ S (seqQ Q) Ex
theorem deliv_list {K : Frg} {P : Hid} {S1 : Store} {H1 : Hp} {a : Addr} {xs : List V} {ws : List Dt} (rl : RpL K P S1 H1 ws xs)
    (k : ∀ (P' : Hid) (S2 : Store) (H2 : Hp), (∀ b, P' b → P b ∨ H1 b = none) → Evo S1 H1 S2 H2 → SqL K H2 a xs) : Deliv K P (Itl K a) S1 H1 ws (fun _ => True) := fun P' S2 H2 i hp W2 e2 _ => by
  have h2 := k P' S2 H2 hp e2
  have rl2 := rpl_live hp e2 rl
  refine ⟨fun w ew => ?_, fun hi => ⟨xs, h2, by rw [← rl.length]; exact hi⟩⟩
  obtain ⟨x, ex, rx⟩ := rl2.get ew
  refine ⟨⟨xs, x, h2, ex⟩, fun y H' hy => ?_⟩
  obtain ⟨rfl, hy⟩ := hy
  have := (hy xs h2).symm.trans ex
  cases this
  exact ⟨W2, Evo.refl, rx⟩
theorem deliv_ref {K : Frg} {P : Hid} {S1 : Store} {H1 : Hp} {a : Addr} {ws : List Dt} : Deliv K P (Itl K a) S1 H1 ws (fun S2 => S2 a = some (.lst ws)) := fun P' S2 H2 i hp W2 e2 g => by
  obtain ⟨ys, e3, rl3⟩ := W2.sim a _ g
  refine ⟨fun w ew => ?_, fun hi => ⟨ys, SqL.of e3, by rw [← rl3.length]; exact hi⟩⟩
  obtain ⟨x, ex, rx⟩ := rl3.get ew
  refine ⟨⟨ys, x, SqL.of e3, ex⟩, fun y H' hy => ?_⟩
  obtain ⟨rfl, hy⟩ := hy
  have := (hy ys (SqL.of e3)).symm.trans ex
  cases this
  exact ⟨W2, Evo.refl, rx⟩
theorem deliv_tup {K : Frg} {P : Hid} {S1 : Store} {H1 : Hp} {a : Addr} {xs : List V} {ws : List Dt} (f : Fz P S1 H1 a (.tup xs) ∨ KT K a xs) (rl : RpL K P S1 H1 ws xs) : Deliv K P (Itt K a) S1 H1 ws (fun _ => True) := fun P' S2 H2 i hp W2 e2 _ => by
  have h2 : SqT K H2 a xs := by
    rcases f with f | f
    · exact SqT.of (e2 a _ f.2.1 f.1).1
    · exact f.sq
  have rl2 := rpl_live hp e2 rl
  refine ⟨fun w ew => ?_, fun hi => ⟨xs, h2, by rw [← rl.length]; exact hi⟩⟩
  obtain ⟨x, ex, rx⟩ := rl2.get ew
  refine ⟨⟨xs, x, h2, ex⟩, fun y H' hy => ?_⟩
  obtain ⟨rfl, hy⟩ := hy
  have := (hy xs h2).symm.trans ex
  cases this
  exact ⟨W2, Evo.refl, rx⟩
theorem deliv_str {K : Frg} {P : Hid} {S1 : Store} {H1 : Hp} {x : Str} : Deliv K P (Its x) S1 H1 (signsW x) (fun _ => True) := fun P' S2 H2 i hp W2 e2 _ => by
  refine ⟨fun w ew => ?_, fun hi => by unfold signsW at hi; rw [List.length_map, Array.length_toList] at hi; exact hi⟩
  unfold signsW at ew
  rw [List.getElem?_map, Array.getElem?_toList] at ew
  cases q : x.cps[i]? with
  | none => rw [q] at ew; cases ew
  | some c =>
    rw [q] at ew
    cases ew
    refine ⟨(Array.getElem?_eq_some_iff.mp q).1, fun y H' hy => ?_⟩
    obtain ⟨rfl, d, ed, rfl⟩ := hy
    rw [q] at ed
    cases ed
    exact ⟨W2, Evo.refl, rpStr⟩
theorem ji_seq {tg l : Expr} {m : ME} (hl : JE X E l m) : JI X E tg l (mSeqI m) := by
  refine ⟨fun pins s σv H R I q => ?_⟩
  obtain ⟨P, S, σ, Q, Ex, W, r, m, nj, nx⟩ := q
  refine thn (hl.run pins s σv H (fun v H1 => ∃ w S1, Wd X.K P S1 H1 ∧ Rp X.K P S1 H1 w v ∧ Evo S H S1 H1 ∧ seqQ Q w S1) I ⟨P, S, σ, _, Ex, W, r, m, fun v H1 w S1 W1 r1 e1 m1 => ⟨w, S1, W1, r1, e1, m1⟩, nx⟩) fun u s1 ⟨v, H1, I1, rv, w, S1, W1, r1, e1, m1⟩ => ?_
  unfold seqQ at m1
  split at m1
  · rename_i a
    rw [rp_ref] at r1
    subst r1
    cases rv
    split at m1
    · rename_i ws e
      obtain ⟨xs, e2, rl⟩ := W1.sim a _ e
      exact it_list I1 (SqL.of e2) (nj _ H1 ws _ S1 W1 e1 deliv_ref m1)
    · exact m1.elim
  · unfold Rp at r1
    obtain ⟨a, xs, rfl, f, rl⟩ := r1
    cases rv
    exact it_list I1 f.sqL (nj _ H1 _ _ S1 W1 e1 (deliv_list rl fun P' S2 H2 hp e2 => SqL.of (e2 a _ f.2.1 f.1).1) m1)
  · unfold Rp at r1
    obtain ⟨a, xs, rfl, f, rl⟩ := r1
    cases rv
    refine it_list I1 (sqK_of f) (nj _ H1 _ _ S1 W1 e1 (deliv_list rl fun P' S2 H2 hp e2 => ?_) m1)
    rcases f with ⟨o, f⟩ | f
    · exact .inl (.inr ⟨o, (e2 a _ f.2.1 f.1).1⟩)
    · exact f.sq
  · unfold Rp at r1
    obtain ⟨a, xs, rfl, f, rl⟩ := r1
    cases rv
    exact it_tup I1 (sqT_of (.inl f)) (nj _ H1 _ _ S1 W1 e1 (deliv_tup (.inl f) rl) m1)
  · unfold Rp at r1
    obtain ⟨a, xs, rfl, f, rl⟩ := r1
    cases rv
    exact it_tup I1 f.sq (nj _ H1 _ _ S1 W1 e1 (deliv_tup (.inr f) rl) m1)
  · rw [rp_str] at r1
    subst r1
    obtain ⟨t, rfl⟩ := rv
    exact it_str I1 (nj _ H1 _ _ S1 W1 e1 deliv_str m1)
  · exact m1.elim
/-- zip of two tuples, of two lists that are not changed -/
def zipW : List Dt → List Dt → List Dt
  | a :: as, b :: bs => .tup [a, b] :: zipW as bs
  | _, _ => []
theorem zipW_get : ∀ {as bs : List Dt} {i : Nat} {w : Dt}, (zipW as bs)[i]? = some w → ∃ a b, as[i]? = some a ∧ bs[i]? = some b ∧ w = .tup [a, b]
  | [], _, i, w, h => by simp [zipW] at h
  | _ :: _, [], i, w, h => by simp [zipW] at h
  | a :: as, b :: bs, 0, w, h => by
    unfold zipW at h
    simp at h
    exact ⟨a, b, rfl, rfl, h.symm⟩
  | a :: as, b :: bs, i + 1, w, h => by
    unfold zipW at h
    obtain ⟨c, d, h1, h2, h3⟩ := zipW_get (as := as) (bs := bs) (i := i) (by simpa using h)
    exact ⟨c, d, by simpa using h1, by simpa using h2, h3⟩
theorem zipW_len : ∀ (as bs : List Dt), (zipW as bs).length = min as.length bs.length
  | [], _ => by simp [zipW]
  | _ :: _, [] => by simp [zipW]
  | a :: as, b :: bs => by unfold zipW; rw [List.length_cons, List.length_cons, List.length_cons, zipW_len as bs]; omega
def mZip (ma : MA) : MI := fun σ S Q Ex => ma σ S (fun ws S1 => match ws with
  | [.tup as, .tup bs] => Q (zipW as bs) (fun _ => True) S1
  | [.lst as, .lst bs] => Q (zipW as bs) (fun _ => True) S1
  | _ => False) Ex
theorem ji_zip {e e2 : Expr} {ma : MA} {p pos tpos : Pos} {elts : List Expr} {kk : Nat} (hg : Gl X "zip") (hm : X.mg "zip" = none) (ha : JA X E [e, e2] ma)
    (hs : starEach [e, e2] X.env = (false, eval e X.env) :: starEach [e2] X.env := by rfl) (hpl : (backTo pos (starEach [e2] X.env)).any (·.1) = false := by rfl) :
    JI X E (.Tuple elts kk tpos) (.Call (.Name "zip" p) [e, e2] [] pos) (mZip ma) := PI.weak (pi_zipA hg hm ha hs hpl) fun σv H R q => by
  obtain ⟨P, S, σ, Q, Ex, W, r, m, nj, nx⟩ := q
  refine ⟨P, S, σ, _, Ex, W, r, m, fun v H1 w S1 W1 r1 e1 m1 => ?_, nx⟩
  dsimp only at m1
  split at m1
  · rename_i as bs
    obtain ⟨v1, v2, rfl, ra, rb⟩ := r1.two
    unfold Rp at ra rb
    obtain ⟨a, xs, rfl, fa, rla⟩ := ra
    obtain ⟨b, ys, rfl, fb, rlb⟩ := rb
    refine ⟨a, b, xs, ys, rfl, .inr ⟨sqT_of (.inl fa), sqT_of (.inl fb), nj _ H1 _ _ S1 W1 e1 (fun P' S2 H2 i hp W2 e2 _ => ?_) m1⟩⟩
    have liv : ∀ {c : Addr} {zs : List V}, (Fz P S1 H1 c (.tup zs) ∨ KT X.K c zs) → SqT X.K H2 c zs := fun f => f.elim (fun f => SqT.of (e2 _ _ f.2.1 f.1).1) KT.sq
    have h1 := liv (.inl fa)
    have h2 := liv (.inl fb)
    have la := rpl_live hp e2 rla
    have lb := rpl_live hp e2 rlb
    refine ⟨fun w ew => ?_, fun hi => ⟨xs, ys, h1, h2, by rw [zipW_len] at hi; rw [← rla.length, ← rlb.length]; omega⟩⟩
    obtain ⟨wa, wb, ea, eb, rfl⟩ := zipW_get ew
    obtain ⟨x, ex, rx⟩ := la.get ea
    obtain ⟨y, ey, ry⟩ := lb.get eb
    refine ⟨⟨xs, ys, x, y, h1, h2, ex, ey⟩, fun z H' hz => ?_⟩
    obtain ⟨T, x', y', rfl, nT, rfl, hx, hy⟩ := hz
    have q1 := (hx xs h1).symm.trans ex
    have q2 := (hy ys h2).symm.trans ey
    cases q1
    cases q2
    refine ⟨W2.new nT, Evo.new nT, ?_⟩
    unfold Rp
    exact ⟨T, _, rfl, Fz.new W2 nT, RpL.cons (rx.mono (Evo.new nT)) (RpL.cons (ry.mono (Evo.new nT)) RpL.nil)⟩
  · rename_i as bs
    obtain ⟨v1, v2, rfl, ra, rb⟩ := r1.two
    unfold Rp at ra rb
    obtain ⟨a, xs, rfl, fa, rla⟩ := ra
    obtain ⟨b, ys, rfl, fb, rlb⟩ := rb
    refine ⟨a, b, xs, ys, rfl, .inl ⟨fa.sqL, fb.sqL, nj _ H1 _ _ S1 W1 e1 (fun P' S2 H2 i hp W2 e2 _ => ?_) m1⟩⟩
    have h1 : SqL X.K H2 a xs := SqL.of (e2 _ _ fa.2.1 fa.1).1
    have h2 : SqL X.K H2 b ys := SqL.of (e2 _ _ fb.2.1 fb.1).1
    have la := rpl_live hp e2 rla
    have lb := rpl_live hp e2 rlb
    refine ⟨fun w ew => ?_, fun hi => ⟨xs, ys, h1, h2, by rw [zipW_len] at hi; rw [← rla.length, ← rlb.length]; omega⟩⟩
    obtain ⟨wa, wb, ea, eb, rfl⟩ := zipW_get ew
    obtain ⟨x, ex, rx⟩ := la.get ea
    obtain ⟨y, ey, ry⟩ := lb.get eb
    refine ⟨⟨xs, ys, x, y, h1, h2, ex, ey⟩, fun z H' hz => ?_⟩
    obtain ⟨T, x', y', rfl, nT, rfl, hx, hy⟩ := hz
    have q1 := (hx xs h1).symm.trans ex
    have q2 := (hy ys h2).symm.trans ey
    cases q1
    cases q2
    refine ⟨W2.new nT, Evo.new nT, ?_⟩
    unfold Rp
    exact ⟨T, _, rfl, Fz.new W2 nT, RpL.cons (rx.mono (Evo.new nT)) (RpL.cons (ry.mono (Evo.new nT)) RpL.nil)⟩
  · exact m1.elim
/-! ### the defs of the text, what is global -/
end
/-- a def of the text -/
def Dfn2 (K : Frg) (mg : Str → Option Value) (x y : Str) (st : Stmt) (ps : List Str) : Prop := ∃ (f : Addr) (fd : FuncData), mg x = some (.ref f) ∧ L2.Fun K y y st f fd ∧ Binds K fd ps []
/-- a def that keeps its promise -/
def Cal (P : Program) (w : World) (K : Frg) (mg : Str → Option Value) (base : Heap) (x : Str) (k : Nat) (ps : List Str) (n : Nat) (G : Fw) : Prop :=
  ∃ (f : Addr) (fd : FuncData), mg x = some (.ref f) ∧ PySem.W.keepIn K (.ref f) = true ∧ Binds K fd ps [] ∧ FnOk P w K mg base (L2.CX P w) k f fd ps (spOf K n G)
theorem Cal.mono {P : Program} {w : World} {K : Frg} {mg : Str → Option Value} {base : Heap} {x : Str} {j k : Nat} {ps : List Str} {n : Nat} {G : Fw} (C : Cal P w K mg base x j ps n G) (h : j ≤ k) : Cal P w K mg base x k ps n G :=
  let ⟨f, fd, a, b, c, d⟩ := C; ⟨f, fd, a, b, c, d.mono h⟩
theorem Cal.imp {P : Program} {w : World} {K : Frg} {mg : Str → Option Value} {base : Heap} {x : Str} {k : Nat} {ps : List Str} {n : Nat} {G G' : Fw} (C : Cal P w K mg base x k ps n G) (h : ∀ ws S Q Ex, ws.length = n → G' ws S Q Ex → G ws S Q Ex) : Cal P w K mg base x k ps n G' :=
  let ⟨f, fd, a, b, c, d⟩ := C; ⟨f, fd, a, b, c, FnOk.impW d h⟩
theorem cal_of {P : Program} {w : World} {K : Frg} {mg : Str → Option Value} {base : Heap} {x y : Str} {st : Stmt} {N ps : List Str} {k n : Nat} (D : Dfn2 K mg x y st ps) (Sc : FnScope N ps (defScope st)) (G : Fw) (hn : ps.length = n)
    (hbody : ∀ (f : Addr) (cdv : Value) (A : Around) (outer : List PySem.Env) (s : Shared) (H : Hp) (E : XK), Room k (A.deeper (envOfC y (defScope st) s.heap.objs.size f cdv)) →
      ∃ m, JSs (cxOf (L2.CX P w) P w K mg base N y (defScope st) f cdv A outer s H E) (fun c d _ H' => E c d H') (defBody st) m ∧
        ∀ (ws : List Dt) (S : Store) (Q : Dt → Store → Prop) (Ex : Exn → Store → Prop), ws.length = n → G ws S Q Ex →
          m ⟨fun _ S' => clo Q .non S', clo Q, fun _ _ => False, fun _ _ => False, fun x _ S' => clX Ex x S'⟩ (startW N.length ws) S) : Cal P w K mg base x (k + 1) ps n G :=
  let ⟨f, fd, a, F, b⟩ := D
  ⟨f, fd, a, F.kp, b, ok_w F Sc G hn (hbody f)⟩
section
variable {X : Cx} {E : WX}
theorem je_cal {k n : Nat} {ps : List Str} {G : Fw} {x : Str} {p pos : Pos} {e : Expr} {es : List Expr} {ma : MA} (C : Cal X.prog X.w X.K X.mg X.base x k ps n G) (hr : Room k X.A) (tk : Takes X E) (hg : Gl X x) (ha : JA X E (e :: es) ma)
    (hdb : (x == ("__debug__" : Str)) = false := by decide) (he : starEach (e :: es) X.env = (false, eval e X.env) :: starEach es X.env := by rfl)
    (hpl : (backTo pos (starEach es X.env)).any (·.1) = false := by rfl) : JE X E (.Call (.Name x p) (e :: es) [] pos) (mCall n G ma) :=
  let ⟨f, fd, a, b, c, d⟩ := C
  je_call d hr tk hg a b c ha hdb he hpl
def Gint (mg : Str → Option Value) (x : Str) (i : Int) : Prop := ∃ t, mg x = some (.int i t)
def Gstr (mg : Str → Option Value) (x i : Str) : Prop := ∃ t, mg x = some (.str i t)
theorem je_gi {x : Str} {i : Int} {pos : Pos} (hg : Gl X x) (hm : Gint X.mg x i) (hd : (x == ("__debug__" : Str)) = false := by decide) : JE X E (.Name x pos) (mC (.int i)) := let ⟨t, h⟩ := hm; je_gint hg h hd
theorem je_gs {x i : Str} {pos : Pos} (hg : Gl X x) (hm : Gstr X.mg x i) (hd : (x == ("__debug__" : Str)) = false := by decide) : JE X E (.Name x pos) (mC (.str i)) := let ⟨t, h⟩ := hm; je_gstr hg h hd
theorem takes_def {P : Program} {w : World} {K : Frg} {mg : Str → Option Value} {base : Heap} {N : List Str} {qual : Str} {scope : Scope} {f : Addr} {cd : Value} {A : Around} {outer : List PySem.Env} {s : Shared} {H : Hp} {E : XK} :
    Takes (cxOf (L2.CX P w) P w K mg base N qual scope f cd A outer s H E) (fun c d _ H' => E c d H') := takes_of rfl rfl rfl rfl
theorem passes_def {P : Program} {w : World} {K : Frg} {mg : Str → Option Value} {base : Heap} {N : List Str} {qual : Str} {scope : Scope} {f : Addr} {cd : Value} {A : Around} {outer : List PySem.Env} {s : Shared} {H : Hp} {E : XK} :
    PassesOwn (model P w) (cxOf (L2.CX P w) P w K mg base N qual scope f cd A outer s H E).A (cxOf (L2.CX P w) P w K mg base N qual scope f cd A outer s H E).env (cxOf (L2.CX P w) P w K mg base N qual scope f cd A outer s H E).xe := by
  exact passes_of (X := cxOf (L2.CX P w) P w K mg base N qual scope f cd A outer s H E) rfl
end
/-- def __init__(self, f): self.f = f -/
theorem ok_ini1 {P : Program} {w : World} {K : Frg} {mg : Str → Option Value} {base : Heap} {qual f : Str} {st : Stmt} {fI C : Addr} {fd : FuncData} {p1 p2 p3 p4 : Pos} (F : L2.Fun K "__init__" qual st fI fd) (Sc : FnScope ["self", f] ["self", f] (defScope st))
    (hB : defBody st = [.Assign [.Attribute (.Name "self" p1) f p2] (.Name f p3) p4]) (v1 : Vis (defScope st) "self") (v2 : Vis (defScope st) f) (h1 : (f == ("__debug__" : Str)) = false) (h2 : (f == ("__classdict__" : Str)) = false)
    (T : OexC K C) (no : PySem.W.findIn K (.ref C) f = some none) :
    FnOk P w K mg base (L2.CX P w) 1 fI fd ["self", f] (fun vs H Q _ => ∃ a y, vs = [.ref a, y] ∧ H a = some (exo a C none) ∧ ∀ d, H d = none → d ≠ a → Q .non (upd (upd H d (exd d [(f, y)])) a (exo a C (some d)))) := by
  refine F.okX Sc (fun vs H Q E h => by obtain ⟨a, y, rfl, _⟩ := h; rfl) fun cdv A outer s H vs Q E hr h => ?_
  obtain ⟨a, y, rfl, e, k⟩ := h
  refine ⟨_, by rw [hB]; exact pss_one (ps_ost (pe_var (i := 0) rfl v1) (pe_var (i := 1) rfl v2 h1 h2)), ?_⟩
  exact ⟨y, rfl, .ref a, rfl, a, C, rfl, T, no, .inl ⟨e, fun dx n ne => k dx n ne⟩⟩
-- what the top has written
section
variable {K : Frg} {h : Heap} {mg : Str → Option Value}
theorem dfn_mk {x y : Str} {st : Stmt} {ps : List Str} {f : Addr} {oc : Value} {od an : Option Addr} {osl : Array (Option Value)} {kV doc pm cdv ct : Value} (X : K.In h) (G : h.Ns mainGlobals mg) (a : PySem.W.nsIn K mainGlobals x = some (some (.ref f)))
    (l : K.lookup f = some ⟨oc, od, .func (PySem.W.fnOf y y (defArgs st) (defBody st) (defScope st) .none kV doc pm an cdv ct), osl⟩) (c : PySem.W.codeIn K cdv y = true) (k : PySem.W.keepIn K (.ref f) = true)
    (hb : ∀ (kV doc pm : Value) (an : Option Addr) (cdv ct : Value) (us : List Value), us.length = ps.length → bindArgs (PySem.W.fnOf y y (defArgs st) (defBody st) (defScope st) .none kV doc pm an cdv ct) ⟨us, []⟩ = pure (ps.zip us)) : Dfn2 K mg x y st ps :=
  ⟨f, _, PySem.W.mg_of X G a, fun_mk l c k, (fun_mk (st := st) l c k).binds hb⟩
theorem gint_mk {x : Str} {i : Int} {t : Tok} (X : K.In h) (G : h.Ns mainGlobals mg) (a : PySem.W.nsIn K mainGlobals x = some (some (.int i t))) : Gint mg x i := ⟨t, PySem.W.mg_of X G a⟩
theorem gstr_mk {x i : Str} {t : Tok} (X : K.In h) (G : h.Ns mainGlobals mg) (a : PySem.W.nsIn K mainGlobals x = some (some (.str i t))) : Gstr mg x i := ⟨t, PySem.W.mg_of X G a⟩
theorem gint_loose {h' : Heap} {x : Str} {i : Int} (e : ∃ v, mg x = some v ∧ PySem.W.ReadsLit h' v (.int i) []) : Gint mg x i := by
  obtain ⟨v, a, b⟩ := e
  cases b
  exact ⟨_, a⟩
theorem gstr_loose {h' : Heap} {x i : Str} (e : ∃ v, mg x = some v ∧ PySem.W.ReadsLit h' v (.str i) []) : Gstr mg x i := by
  obtain ⟨v, a, b⟩ := e
  cases b
  exact ⟨_, a⟩
theorem exc1_mk {P : Program} {w : World} {base : Heap} {x f qual nm q : Str} {st : Stmt} {C fI N : Addr} {bs bm : List Value} {sn : List Str} {sub : List Value} {ab : Bool} {col : Option Bool} {dd : Option Addr} {k0 k1 k2 k3 k5 : Option Value}
    {oc kV dc pm cd ct : Value} {od an : Option Addr} {sl : Array (Option Value)} {p1 p2 p3 p4 : Pos} (X : K.In h) (G : h.Ns mainGlobals mg) (aE : PySem.W.nsIn K mainGlobals x = some (some (.ref C)))
    (xL : K.lookup C = some (excClassObj nm q C N bs bm true sn sub ab col dd k0 k1 k2 k3 k5 "ValueError.__new__")) (bR : PySem.HandSPX.refsVE bm = true) (sa : PySem.W.findIn K (.ref C) "__setattr__" = some (some (.builtin "object.__setattr__")))
    (ga : PySem.W.findIn K (.ref C) "__getattribute__" = some (some (.builtin "BaseException.__getattribute__"))) (gg : PySem.W.findIn K (.ref C) "__getattr__" = some none) (no : PySem.W.findIn K (.ref C) f = some none)
    (iC : PySem.W.findIn K (.ref C) "__init__" = some (some (.ref fI))) (tI : PySem.W.typeIn K (.ref fI) = some (.type "function"))
    (l : K.lookup fI = some ⟨oc, od, .func (PySem.W.fnOf "__init__" qual (defArgs st) (defBody st) (defScope st) .none kV dc pm an cd ct), sl⟩) (c : PySem.W.codeIn K cd qual = true) (kf : PySem.W.keepIn K (.ref fI) = true)
    (kC : PySem.W.keepIn K (.ref C) = true) (eC : PySem.W.subIn K (.ref C) (.type "BaseException") = some true) (tC : PySem.W.typeIn K (.ref C) = some (.type "type")) (hC : PySem.W.hasDictIn K C = true)
    (Sc : FnScope ["self", f] ["self", f] (defScope st)) (hB : defBody st = [.Assign [.Attribute (.Name "self" p1) f p2] (.Name f p3) p4]) (v1 : Vis (defScope st) "self") (v2 : Vis (defScope st) f) (h1 : (f == ("__debug__" : Str)) = false) (h2 : (f == ("__classdict__" : Str)) = false)
    (hb : ∀ (kV doc pm : Value) (an : Option Addr) (cdv ct : Value) (us : List Value), us.length = (["self", f] : List Str).length → bindArgs (PySem.W.fnOf "__init__" qual (defArgs st) (defBody st) (defScope st) .none kV doc pm an cdv ct) ⟨us, []⟩ = pure ((["self", f] : List Str).zip us)) : Exc1 P w K mg base x f C :=
  have oC : OexC K C := ⟨⟨nm, q, N, bs, bm, sn, sub, ab, col, dd, k0, k1, k2, k3, k5, xL, bR⟩, sa, eC, tC, kC⟩
  ⟨PySem.W.mg_of X G aE, oC, ⟨ga, gg, eC, hC⟩, no, fI, _, iC, tI, (fun_mk (st := st) l c kf).binds hb, ok_ini1 (fun_mk (st := st) l c kf) Sc hB v1 v2 h1 h2 oC no⟩
theorem exc0_mk {x : Str} {C : Addr} (X : K.In h) (G : h.Ns mainGlobals mg) (a : PySem.W.nsIn K mainGlobals x = some (some (.ref C))) (xC : PySem.W.excIn K C [.type "ValueError", .type "Exception", .type "BaseException", .type "object"] "ValueError.__new__" = true)
    (kC : PySem.W.keepIn K (.ref C) = true) (bC : PySem.W.subIn K (.ref C) (.type "BaseException") = some true) (tC : PySem.W.typeIn K (.ref C) = some (.type "type")) : Exc0 K mg x C := ⟨PySem.W.mg_of X G a, xC, kC, bC, tC⟩
end
/-- the law: a script of at most n numbers, True comes out -/
def lawG (n : Nat) : Fw := fun ws S Q _ => ∃ ns : List Int, ws = [.kl (ns.map Dt.int)] ∧ ns.length ≤ n ∧ S = (fun _ => none) ∧ ∀ S', Q (.bl true) S'
theorem law_sp {K : Frg} {n : Nat} {H : Hp} {a : Addr} {ns : List Int} (hl : ns.length ≤ n) (hO : Only H) (hS : SqL K H a (ns.map V.int)) : spOf K 1 (lawG n) [.ref a] H (fun v _ => v = .bl true) (fun _ _ _ => False) := by
  refine ⟨rfl, fun _ => False, fun _ => none, [.kl (ns.map Dt.int)], fun w _ => w = .bl true, fun _ _ => False, ⟨fun a o e => (by cases e), fun a h => h.elim⟩, RpL.cons ?_ RpL.nil, ⟨ns, rfl, hl, rfl, fun _ => rfl⟩, fun v H' w S' W r e q => ?_, fun _ _ _ _ _ _ _ _ q => q⟩
  · unfold Rp
    refine ⟨a, ns.map V.int, rfl, ?_, RpL.ofInt⟩
    rcases hS with (h | ⟨o, h⟩) | h
    · exfalso
      rcases hO a with q | ⟨o, u, q⟩
      · rw [q] at h; cases h
      · rw [q] at h; cases h
    · exact .inl ⟨o, h, rfl, fun h => h⟩
    · exact .inr (.inr h)
  · subst q
    rw [rp_bl] at r
    exact r
theorem walk_ofX {l : PySem.W.OpenLaw} {n k : Nat} {q : Program} {loose : List Str} {XP : (Str → Option Value) → Heap → Prop} {YP : World → Heap → Prop} {d : DefRec} {K : Params → Frg} {x : Str}
    (hn : l.most = some n) (hn2 : n ≤ sizeLine) (hdf : d.params.defaults = []) (hr : Room k callerA) (hY : ∀ (w : World) (h : Heap), YP w h → (K w.params).In h)
    (F : ∀ (w : World) (mg : Str → Option Value) (fa : Addr) (h : Heap), (K w.params).In h → h.Ns mainGlobals mg → XP mg h → mg d.name = some (.ref fa) →
      ∃ fd : FuncData, (∀ (s : Shared) (u : Value), BindsTo s fd ⟨[u], []⟩ [(x, u)]) ∧ ∀ base : Heap, (K w.params).In base → base.Ns mainGlobals mg → FnOk l.prog w (K w.params) mg base (L2.CX l.prog w) k fa fd [x] (spOf (K w.params) 1 (lawG n))) :
    PySem.W.WalkO q loose XP YP l.row.toRowW d [] (fun f vs => PySem.call f vs) := by
  refine Att.attach_call hn hdf fun w s0 s1 mg mb fa o pm cd doc a vs ns G Y ho hd hcd hmg hobj hints hlen hg => ?_
  have KX := hY w _ Y
  obtain ⟨fd, hb, hF⟩ := F w mg fa _ KX G.T.g G.X hmg
  exact law_call KX G.T.g G.T.b G.T.builtins G.T.nolimit hg hobj hints (Nat.le_trans hlen hn2) hr hF hb (fun H hO hS => law_sp hlen hO hS) fun H e s' h => cx_none h
end Dn

namespace Dn
open PySem PySem.Spec PyProof.Rows L2
/-! ### which built-in type is which -/
theorem kb_NoneType_int : kitB "NoneType" "int" = some false := by decide +kernel
theorem kb_NoneType_bool : kitB "NoneType" "bool" = some false := by decide +kernel
theorem kb_NoneType_str : kitB "NoneType" "str" = some false := by decide +kernel
theorem kb_NoneType_tuple : kitB "NoneType" "tuple" = some false := by decide +kernel
theorem kb_NoneType_list : kitB "NoneType" "list" = some false := by decide +kernel
theorem kb_NoneType_dict : kitB "NoneType" "dict" = some false := by decide +kernel
theorem kb_bool_int : kitB "bool" "int" = some true := by decide +kernel
theorem kb_bool_bool : kitB "bool" "bool" = some true := by decide +kernel
theorem kb_bool_str : kitB "bool" "str" = some false := by decide +kernel
theorem kb_bool_tuple : kitB "bool" "tuple" = some false := by decide +kernel
theorem kb_bool_list : kitB "bool" "list" = some false := by decide +kernel
theorem kb_bool_dict : kitB "bool" "dict" = some false := by decide +kernel
theorem kb_int_int : kitB "int" "int" = some true := by decide +kernel
theorem kb_int_bool : kitB "int" "bool" = some false := by decide +kernel
theorem kb_int_str : kitB "int" "str" = some false := by decide +kernel
theorem kb_int_tuple : kitB "int" "tuple" = some false := by decide +kernel
theorem kb_int_list : kitB "int" "list" = some false := by decide +kernel
theorem kb_int_dict : kitB "int" "dict" = some false := by decide +kernel
theorem kb_str_int : kitB "str" "int" = some false := by decide +kernel
theorem kb_str_bool : kitB "str" "bool" = some false := by decide +kernel
theorem kb_str_str : kitB "str" "str" = some true := by decide +kernel
theorem kb_str_tuple : kitB "str" "tuple" = some false := by decide +kernel
theorem kb_str_list : kitB "str" "list" = some false := by decide +kernel
theorem kb_str_dict : kitB "str" "dict" = some false := by decide +kernel
theorem kb_tuple_int : kitB "tuple" "int" = some false := by decide +kernel
theorem kb_tuple_bool : kitB "tuple" "bool" = some false := by decide +kernel
theorem kb_tuple_str : kitB "tuple" "str" = some false := by decide +kernel
theorem kb_tuple_tuple : kitB "tuple" "tuple" = some true := by decide +kernel
theorem kb_tuple_list : kitB "tuple" "list" = some false := by decide +kernel
theorem kb_tuple_dict : kitB "tuple" "dict" = some false := by decide +kernel
theorem kb_list_int : kitB "list" "int" = some false := by decide +kernel
theorem kb_list_bool : kitB "list" "bool" = some false := by decide +kernel
theorem kb_list_str : kitB "list" "str" = some false := by decide +kernel
theorem kb_list_tuple : kitB "list" "tuple" = some false := by decide +kernel
theorem kb_list_list : kitB "list" "list" = some true := by decide +kernel
theorem kb_list_dict : kitB "list" "dict" = some false := by decide +kernel
theorem kb_dict_int : kitB "dict" "int" = some false := by decide +kernel
theorem kb_dict_bool : kitB "dict" "bool" = some false := by decide +kernel
theorem kb_dict_str : kitB "dict" "str" = some false := by decide +kernel
theorem kb_dict_tuple : kitB "dict" "tuple" = some false := by decide +kernel
theorem kb_dict_list : kitB "dict" "list" = some false := by decide +kernel
theorem kb_dict_dict : kitB "dict" "dict" = some true := by decide +kernel
/-! ### what a thing is -/
def isI : Dt → Bool
  | .int _ => true
  | _ => false
def isB : Dt → Bool
  | .bl _ => true
  | _ => false
def isS : Dt → Bool
  | .str _ => true
  | _ => false
def isT : Dt → Bool
  | .tup _ => true
  | .kt _ => true
  | _ => false
def isL (S : Store) : Dt → Bool
  | .lst _ => true
  | .kl _ => true
  | .ref a => match S a with | some (.lst _) => true | _ => false
  | _ => false
/-- a thing whose type is a built-in one -/
def kn (S : Store) (w : Dt) : Prop := ∃ t, tyN S w = some t
theorem kI {S : Store} {w : Dt} {t : String} (h : tyN S w = some t) : kitB t "int" = some (isI w || isB w) := by
  cases w with
  | ref a =>
    unfold tyN at h
    dsimp only at h
    cases e : S a with
    | none => rw [e] at h; cases h
    | some o =>
      rw [e] at h
      cases o with
      | lst _ => cases h; simp only [kb_list_int, isI, isB, isS, isT, isL, e, Bool.or_self]
      | dK _ _ => cases h; simp only [kb_dict_int, isI, isB, isS, isT, isL, e, Bool.or_self]
      | dT _ _ => cases h; simp only [kb_dict_int, isI, isB, isS, isT, isL, e, Bool.or_self]
      | ins _ _ _ => cases h
  | _ => first
    | (cases h; done)
    | (cases h; simp only [kb_NoneType_int, kb_bool_int, kb_int_int, kb_str_int, kb_tuple_int, kb_list_int, kb_dict_int, isI, isB, isS, isT, isL, Bool.or_self, Bool.or_true, Bool.or_false, Bool.true_or, Bool.false_or])
theorem kB {S : Store} {w : Dt} {t : String} (h : tyN S w = some t) : kitB t "bool" = some (isB w) := by
  cases w with
  | ref a =>
    unfold tyN at h
    dsimp only at h
    cases e : S a with
    | none => rw [e] at h; cases h
    | some o =>
      rw [e] at h
      cases o with
      | lst _ => cases h; simp only [kb_list_bool, isI, isB, isS, isT, isL, e, Bool.or_self]
      | dK _ _ => cases h; simp only [kb_dict_bool, isI, isB, isS, isT, isL, e, Bool.or_self]
      | dT _ _ => cases h; simp only [kb_dict_bool, isI, isB, isS, isT, isL, e, Bool.or_self]
      | ins _ _ _ => cases h
  | _ => first
    | (cases h; done)
    | (cases h; simp only [kb_NoneType_bool, kb_bool_bool, kb_int_bool, kb_str_bool, kb_tuple_bool, kb_list_bool, kb_dict_bool, isI, isB, isS, isT, isL, Bool.or_self, Bool.or_true, Bool.or_false, Bool.true_or, Bool.false_or])
theorem kS {S : Store} {w : Dt} {t : String} (h : tyN S w = some t) : kitB t "str" = some (isS w) := by
  cases w with
  | ref a =>
    unfold tyN at h
    dsimp only at h
    cases e : S a with
    | none => rw [e] at h; cases h
    | some o =>
      rw [e] at h
      cases o with
      | lst _ => cases h; simp only [kb_list_str, isI, isB, isS, isT, isL, e, Bool.or_self]
      | dK _ _ => cases h; simp only [kb_dict_str, isI, isB, isS, isT, isL, e, Bool.or_self]
      | dT _ _ => cases h; simp only [kb_dict_str, isI, isB, isS, isT, isL, e, Bool.or_self]
      | ins _ _ _ => cases h
  | _ => first
    | (cases h; done)
    | (cases h; simp only [kb_NoneType_str, kb_bool_str, kb_int_str, kb_str_str, kb_tuple_str, kb_list_str, kb_dict_str, isI, isB, isS, isT, isL, Bool.or_self, Bool.or_true, Bool.or_false, Bool.true_or, Bool.false_or])
theorem kT {S : Store} {w : Dt} {t : String} (h : tyN S w = some t) : kitB t "tuple" = some (isT w) := by
  cases w with
  | ref a =>
    unfold tyN at h
    dsimp only at h
    cases e : S a with
    | none => rw [e] at h; cases h
    | some o =>
      rw [e] at h
      cases o with
      | lst _ => cases h; simp only [kb_list_tuple, isI, isB, isS, isT, isL, e, Bool.or_self]
      | dK _ _ => cases h; simp only [kb_dict_tuple, isI, isB, isS, isT, isL, e, Bool.or_self]
      | dT _ _ => cases h; simp only [kb_dict_tuple, isI, isB, isS, isT, isL, e, Bool.or_self]
      | ins _ _ _ => cases h
  | _ => first
    | (cases h; done)
    | (cases h; simp only [kb_NoneType_tuple, kb_bool_tuple, kb_int_tuple, kb_str_tuple, kb_tuple_tuple, kb_list_tuple, kb_dict_tuple, isI, isB, isS, isT, isL, Bool.or_self, Bool.or_true, Bool.or_false, Bool.true_or, Bool.false_or])
theorem kL {S : Store} {w : Dt} {t : String} (h : tyN S w = some t) : kitB t "list" = some (isL S w) := by
  cases w with
  | ref a =>
    unfold tyN at h
    dsimp only at h
    cases e : S a with
    | none => rw [e] at h; cases h
    | some o =>
      rw [e] at h
      cases o with
      | lst _ => cases h; simp only [kb_list_list, isI, isB, isS, isT, isL, e, Bool.or_self]
      | dK _ _ => cases h; simp only [kb_dict_list, isI, isB, isS, isT, isL, e, Bool.or_self]
      | dT _ _ => cases h; simp only [kb_dict_list, isI, isB, isS, isT, isL, e, Bool.or_self]
      | ins _ _ _ => cases h
  | _ => first
    | (cases h; done)
    | (cases h; simp only [kb_NoneType_list, kb_bool_list, kb_int_list, kb_str_list, kb_tuple_list, kb_list_list, kb_dict_list, isI, isB, isS, isT, isL, Bool.or_self, Bool.or_true, Bool.or_false, Bool.true_or, Bool.false_or])
section
variable {X : Cx} {E : WX}
theorem chain_weak {ma mb mc : ME} {g g' : Op2} {K : Frg} {σv : L2.St} {H : Hp} {Qv : VK} (q : rdE K E (mChain g g' ma mb mc) σv H Qv) : tChain (rd2 K g) (rd2 K g') (rdE K E ma) (rdE K E mb) (rdE K E mc) σv H Qv := by
  obtain ⟨P, S, σ, Q, Ex, W, r, m, nq, nx⟩ := q
  refine ⟨P, S, σ, _, Ex, W, r, m, fun v H1 w S1 W1 r1 e1 m1 => ?_, nx⟩
  refine ⟨P, S1, σ, _, Ex, W1, r.mono e1, m1, fun v2 H2 w2 S2 W2 r2 e2 m2 => ?_, nx.after e1⟩
  refine ⟨P, S2, w, w2, _, W2, r1.mono e2, r2, m2, fun v3 H3 w3 S3 W3 r3 e3 m3 => ?_⟩
  split at m3
  · rw [rp_bl] at r3
    refine ⟨true, r3, ?_⟩
    refine ⟨P, S3, σ, _, Ex, W3, r.mono ((e1.trans e2).trans e3), m3, fun v4 H4 w4 S4 W4 r4 e4 m4 => ?_, nx.after ((e1.trans e2).trans e3)⟩
    exact ⟨P, S4, w2, w4, Q, W4, r2.mono (e3.trans e4), r4, m4, nq.after (((e1.trans e2).trans e3).trans e4)⟩
  · rw [rp_bl] at r3
    exact ⟨false, r3, nq (.bl false) H3 (.bl false) S3 W3 rpBl ((e1.trans e2).trans e3) m3⟩
  · exact m3.elim
theorem je_chain {a b c : Expr} {ma mb mc : ME} {pos : Pos} {op op' : CmpOp} {g g' : Op2} (ho : OpR X (compareOp op) (rd2 X.K g)) (ho' : OpR X (compareOp op') (rd2 X.K g')) (ha : JE X E a ma) (hb : JE X E b mb) (hc : JE X E c mc)
    (h1 : lastMarks [op, op'] [b, c] = false := by with_unfolding_all rfl) : JE X E (.Compare a [op, op'] [b, c] pos) (mChain g g' ma mb mc) := PE.weak (pe_chain ho ho' ha hb hc h1) fun σv H Qv q => chain_weak q
/-- {} -/
def mDict0 : ME := fun _ S Q _ => Q (.dK [] []) S
theorem je_dict0 {pos : Pos} : JE X E (.Dict [] [] pos) mDict0 := PE.weak pe_dnewK fun σv H Qv q => by
  obtain ⟨P, S, σ, Q, Ex, W, r, m, nq, nx⟩ := q
  intro p hp
  refine nq _ _ (.dK [] []) S (W.new hp) ?_ (Evo.new hp) m
  unfold Rp
  exact ⟨p, [], rfl, Fz.new W hp, rfl, RpL.nil⟩
end
theorem w1 {ws : List Dt} (h : ws.length = 1) : ∃ a, ws = [a] := by
  cases ws with
  | nil => cases h
  | cons a r => cases r with
    | nil => exact ⟨a, rfl⟩
    | cons b r => simp at h
theorem w2 {ws : List Dt} (h : ws.length = 2) : ∃ a b, ws = [a, b] := by
  cases ws with
  | nil => cases h
  | cons a r =>
    obtain ⟨b, rfl⟩ := w1 (ws := r) (by simpa using h)
    exact ⟨a, b, rfl⟩
theorem w3 {ws : List Dt} (h : ws.length = 3) : ∃ a b c, ws = [a, b, c] := by
  cases ws with
  | nil => cases h
  | cons a r =>
    obtain ⟨b, c, rfl⟩ := w2 (ws := r) (by simpa using h)
    exact ⟨a, b, c, rfl⟩
theorem w4 {ws : List Dt} (h : ws.length = 4) : ∃ a b c d, ws = [a, b, c, d] := by
  cases ws with
  | nil => cases h
  | cons a r =>
    obtain ⟨b, c, d, rfl⟩ := w3 (ws := r) (by simpa using h)
    exact ⟨a, b, c, d, rfl⟩
theorem st_len {n : Nat} {ws : List Dt} : startW n ws = ws.map some ++ List.replicate (n - ws.length) none := rfl
end Dn

namespace Dn
open PySem PySem.Spec PyProof.Rows L2
/-! ### loops by invariants -/
theorem forW_at {g : MG} {body : MS} {gd : Store → Prop} {D : EndsW} {all : List Dt} (I : Nat → Env → Store → Prop)
    (hs : ∀ (i : Nat) (w : Dt) (σ : Env) (S : Store) (N : Env → Store → Prop), all[i]? = some w → I i σ S → (∀ σ' S', I (i + 1) σ' S' → N σ' S') → gd S ∧ g w σ S (fun σ1 S1 => body { D with nx := N, ct := N, bk := D.nx } σ1 S1) D.ex)
    (he : ∀ σ S, I all.length σ S → gd S ∧ D.nx σ S) : ∀ (ws : List Dt) (i : Nat) (σ : Env) (S : Store), ws = all.drop i → i ≤ all.length → I i σ S → forW g body gd D ws σ S
  | [], i, σ, S, e, hi, h => by
    unfold forW
    have : all.length ≤ i := by
      have := congrArg List.length e
      simp at this
      omega
    have ei : i = all.length := by omega
    rw [ei] at h
    exact he σ S h
  | w :: ws, i, σ, S, e, hi, h => by
    unfold forW
    have ew : all[i]? = some w := by
      have := congrArg List.head? e
      rw [List.head?_cons, List.head?_drop] at this
      exact this.symm
    have hl : i < all.length := (List.getElem?_eq_some_iff.mp ew).1
    have e2 : ws = all.drop (i + 1) := by
      have := congrArg List.tail e
      rw [List.tail_cons, List.tail_drop] at this
      exact this
    exact hs i w σ S _ ew h fun σ' S' h' => forW_at I hs he ws (i + 1) σ' S' e2 hl h'
theorem forW_rule {g : MG} {body : MS} {gd : Store → Prop} {D : EndsW} {ws : List Dt} {σ : Env} {S : Store} (I : Nat → Env → Store → Prop) (h0 : I 0 σ S)
    (hs : ∀ (i : Nat) (w : Dt) (σ : Env) (S : Store) (N : Env → Store → Prop), ws[i]? = some w → I i σ S → (∀ σ' S', I (i + 1) σ' S' → N σ' S') → gd S ∧ g w σ S (fun σ1 S1 => body { D with nx := N, ct := N, bk := D.nx } σ1 S1) D.ex)
    (he : ∀ σ S, I ws.length σ S → gd S ∧ D.nx σ S) : loopW g body gd D ws σ S := by
  rw [loopW_eq]
  exact forW_at I hs he ws 0 σ S rfl (Nat.zero_le _) h0
theorem whileN_rule {mt : MT} {body : MS} {D : EndsW} (I : Nat → Env → Store → Prop)
    (hs : ∀ (m : Nat) (σ : Env) (S : Store) (N : Env → Store → Prop), I m σ S → (∀ m' σ' S', m' < m → I m' σ' S' → N σ' S') → mt σ S (fun b S1 => br b (body { D with nx := N, ct := N, bk := D.nx } σ S1) (D.nx σ S1)) (fun x S' => D.ex x σ S')) :
    ∀ (n m : Nat) (σ : Env) (S : Store), m < n → I m σ S → whileN mt body D n σ S
  | 0, m, σ, S, h, _ => by omega
  | n + 1, m, σ, S, h, hi => by
    unfold whileN
    exact hs m σ S _ hi fun m' σ' S' h' hi' => whileN_rule I hs n m' σ' S' (by omega) hi'
theorem mWhile_rule {mt : MT} {body : MS} {D : EndsW} {σ : Env} {S : Store} (I : Nat → Env → Store → Prop) (m : Nat) (h0 : I m σ S)
    (hs : ∀ (m : Nat) (σ : Env) (S : Store) (N : Env → Store → Prop), I m σ S → (∀ m' σ' S', m' < m → I m' σ' S' → N σ' S') → mt σ S (fun b S1 => br b (body { D with nx := N, ct := N, bk := D.nx } σ S1) (D.nx σ S1)) (fun x S' => D.ex x σ S')) : mWhile mt body D σ S :=
  ⟨m + 1, whileN_rule I hs (m + 1) m σ S (Nat.lt_succ_self m) h0⟩
/-! ### tests that are comparisons; items at written places -/
section
variable {X : Cx} {E : WX}
def mTst (m : ME) : MT := fun σ S Q Ex => m σ S (fun w S1 => match w with | .bl b => Q b S1 | _ => False) Ex
theorem jt_cmp {a b : Expr} {ma mb : ME} {pos : Pos} {op : CmpOp} {g : Op2} (ho : OpR X (compareOp op) (rd2 X.K g)) (ha : JE X E a ma) (hb : JE X E b mb) (hm : behindInMarks op b = false) : JT X E (.Compare a [op] [b] pos) (mTst (mOp g ma mb)) := PT.weak (pt_cmpR ho ha hb hm) fun σv H Qv q => by
  have q' : rdE X.K E (mOp g ma mb) σv H (fun x H' => ∃ k, x = .bl k ∧ Qv k H') := by
    obtain ⟨P, S, σ, Q, Ex, W, r, m, nq, nx⟩ := q
    refine ⟨P, S, σ, _, Ex, W, r, m, fun v H1 w S1 W1 r1 e1 m1 => ?_, nx⟩
    dsimp only at m1
    split at m1
    · rw [rp_bl] at r1
      exact ⟨_, r1, nq _ H1 S1 W1 e1 m1⟩
    · exact m1.elim
  exact op_weak q'
theorem jt_chain {a b c : Expr} {ma mb mc : ME} {pos : Pos} {op op' : CmpOp} {g g' : Op2} (ho : OpR X (compareOp op) (rd2 X.K g)) (ho' : OpR X (compareOp op') (rd2 X.K g')) (ha : JE X E a ma) (hb : JE X E b mb) (hc : JE X E c mc)
    (h1 : lastMarks [op, op'] [b, c] = false := by with_unfolding_all rfl) : JT X E (.Compare a [op, op'] [b, c] pos) (mTst (mChain g g' ma mb mc)) := PT.weak (pt_chain ho ho' ha hb hc h1) fun σv H Qv q => by
  have q' : rdE X.K E (mChain g g' ma mb mc) σv H (fun x H' => ∃ k, x = .bl k ∧ Qv k H') := by
    obtain ⟨P, S, σ, Q, Ex, W, r, m, nq, nx⟩ := q
    refine ⟨P, S, σ, _, Ex, W, r, m, fun v H1 w S1 W1 r1 e1 m1 => ?_, nx⟩
    dsimp only at m1
    split at m1
    · rw [rp_bl] at r1
      exact ⟨_, r1, nq _ H1 S1 W1 e1 m1⟩
    · exact m1.elim
  exact chain_weak q'
end
theorem at_0 {α : Type} {a : α} {r : List α} : atI (a :: r) 0 = some a := by
  unfold atI
  rw [show ixN (a :: r).length 0 = some 0 from by unfold ixN; rw [if_pos (by decide), if_pos (by simp only [List.length_cons]; omega)]; rfl]
  rfl
theorem at_1 {α : Type} {a b : α} {r : List α} : atI (a :: b :: r) 1 = some b := by
  unfold atI
  rw [show ixN (a :: b :: r).length 1 = some 1 from by unfold ixN; rw [if_pos (by decide), if_pos (by simp only [List.length_cons]; omega)]; rfl]
  rfl
theorem at_2 {α : Type} {a b c : α} {r : List α} : atI (a :: b :: c :: r) 2 = some c := by
  unfold atI
  rw [show ixN (a :: b :: c :: r).length 2 = some 2 from by unfold ixN; rw [if_pos (by decide), if_pos (by simp only [List.length_cons]; omega)]; rfl]
  rfl
theorem at_3 {α : Type} {a b c d : α} {r : List α} : atI (a :: b :: c :: d :: r) 3 = some d := by
  unfold atI
  rw [show ixN (a :: b :: c :: d :: r).length 3 = some 3 from by unfold ixN; rw [if_pos (by decide), if_pos (by simp only [List.length_cons]; omega)]; rfl]
  rfl
theorem at_4 {α : Type} {a b c d e : α} {r : List α} : atI (a :: b :: c :: d :: e :: r) 4 = some e := by
  unfold atI
  rw [show ixN (a :: b :: c :: d :: e :: r).length 4 = some 4 from by unfold ixN; rw [if_pos (by decide), if_pos (by simp only [List.length_cons]; omega)]; rfl]
  rfl
theorem at_5 {α : Type} {a b c d e f : α} {r : List α} : atI (a :: b :: c :: d :: e :: f :: r) 5 = some f := by
  unfold atI
  rw [show ixN (a :: b :: c :: d :: e :: f :: r).length 5 = some 5 from by unfold ixN; rw [if_pos (by decide), if_pos (by simp only [List.length_cons]; omega)]; rfl]
  rfl
theorem at_6 {α : Type} {a b c d e f g : α} {r : List α} : atI (a :: b :: c :: d :: e :: f :: g :: r) 6 = some g := by
  unfold atI
  rw [show ixN (a :: b :: c :: d :: e :: f :: g :: r).length 6 = some 6 from by unfold ixN; rw [if_pos (by decide), if_pos (by simp only [List.length_cons]; omega)]; rfl]
  rfl
theorem at_7 {α : Type} {a b c d e f g h : α} {r : List α} : atI (a :: b :: c :: d :: e :: f :: g :: h :: r) 7 = some h := by
  unfold atI
  rw [show ixN (a :: b :: c :: d :: e :: f :: g :: h :: r).length 7 = some 7 from by unfold ixN; rw [if_pos (by decide), if_pos (by simp only [List.length_cons]; omega)]; rfl]
  rfl
theorem at_8 {α : Type} {a b c d e f g h i : α} {r : List α} : atI (a :: b :: c :: d :: e :: f :: g :: h :: i :: r) 8 = some i := by
  unfold atI
  rw [show ixN (a :: b :: c :: d :: e :: f :: g :: h :: i :: r).length 8 = some 8 from by unfold ixN; rw [if_pos (by decide), if_pos (by simp only [List.length_cons]; omega)]; rfl]
  rfl
theorem at_9 {α : Type} {a b c d e f g h i j : α} {r : List α} : atI (a :: b :: c :: d :: e :: f :: g :: h :: i :: j :: r) 9 = some j := by
  unfold atI
  rw [show ixN (a :: b :: c :: d :: e :: f :: g :: h :: i :: j :: r).length 9 = some 9 from by unfold ixN; rw [if_pos (by decide), if_pos (by simp only [List.length_cons]; omega)]; rfl]
  rfl
theorem ix_1_0 : ixN 1 0 = some 0 := rfl
theorem ix_2_0 : ixN 2 0 = some 0 := rfl
theorem ix_2_1 : ixN 2 1 = some 1 := rfl
theorem ix_3_0 : ixN 3 0 = some 0 := rfl
theorem ix_3_1 : ixN 3 1 = some 1 := rfl
theorem ix_3_2 : ixN 3 2 = some 2 := rfl
theorem ix_4_0 : ixN 4 0 = some 0 := rfl
theorem ix_4_1 : ixN 4 1 = some 1 := rfl
theorem ix_4_2 : ixN 4 2 = some 2 := rfl
theorem ix_4_3 : ixN 4 3 = some 3 := rfl
theorem ix_5_0 : ixN 5 0 = some 0 := rfl
theorem ix_5_1 : ixN 5 1 = some 1 := rfl
theorem ix_5_2 : ixN 5 2 = some 2 := rfl
theorem ix_5_3 : ixN 5 3 = some 3 := rfl
theorem ix_5_4 : ixN 5 4 = some 4 := rfl
theorem ix_6_0 : ixN 6 0 = some 0 := rfl
theorem ix_6_1 : ixN 6 1 = some 1 := rfl
theorem ix_6_2 : ixN 6 2 = some 2 := rfl
theorem ix_6_3 : ixN 6 3 = some 3 := rfl
theorem ix_6_4 : ixN 6 4 = some 4 := rfl
theorem ix_6_5 : ixN 6 5 = some 5 := rfl
/-- a cut behind a statement: what follows is shown once -/
def mCut (m1 m2 : MS) : MS := fun D σ S => ∃ M : Env → Store → Prop, m1 { D with nx := M } σ S ∧ ∀ σ' S', M σ' S' → m2 D σ' S'
theorem jss_cut {X : Cx} {E : WX} {st : Stmt} {rest : List Stmt} {m1 m2 : MS} (h1 : JS X E st m1) (h2 : JSs X E rest m2) : JSs X E (st :: rest) (mCut m1 m2) := PSs.weak (pss_cons h1 h2) fun σv H D q => by
  obtain ⟨P, S, σ, Dw, W, r, ⟨M, m, k⟩, d⟩ := q
  exact ⟨P, S, σ, _, W, r, m, fun σv' H' σ' S' W' r' e' q' => ⟨P, S', σ', Dw, W', r', k σ' S' q', d.after e'⟩, d.rt, d.bk, d.ct, d.ex⟩
/-- a comprehension whose element is a plain function of the item -/
theorem comp_map {b : BW} {me : ME} {σ : Env} {vs : List Nat} {Q : List Dt → Store → Prop} {S : Store} (f : Dt → Dt) : ∀ (ws acc : List Dt),
    (∀ w ∈ ws, ∃ σ1, b w (wipeW σ vs) = some σ1 ∧ ∀ k : Dt → Store → Prop, k (f w) S → me σ1 S k (fun _ _ => False)) → acc.length + ws.length ≤ sizeLine → Q (acc ++ ws.map f) S → compW b mYes me σ vs (fun _ => True) Q ws acc S
  | [], acc, _, _, q => by
    unfold compW
    rw [List.map_nil, List.append_nil] at q
    exact ⟨trivial, q⟩
  | w :: ws, acc, h, hl, q => by
    unfold compW
    refine ⟨trivial, ?_⟩
    obtain ⟨σ1, e, hm⟩ := h w List.mem_cons_self
    rw [e]
    show mYes σ1 S _ _
    unfold mYes
    rw [List.length_cons] at hl
    refine hm _ ⟨by omega, comp_map f ws (acc ++ [f w]) (fun w' h' => h w' (List.mem_cons_of_mem _ h')) (by rw [List.length_append, List.length_singleton]; omega) ?_⟩
    rw [List.append_assoc]
    exact q
/-- .. with a test -/
theorem comp_filter {b : BW} {mt : MT} {me : ME} {σ : Env} {vs : List Nat} {Q : List Dt → Store → Prop} {S : Store} (p : Dt → Bool) (f : Dt → Dt) : ∀ (ws acc : List Dt),
    (∀ w ∈ ws, ∃ σ1, b w (wipeW σ vs) = some σ1 ∧ (∀ k : Bool → Store → Prop, k (p w) S → mt σ1 S k (fun _ _ => False)) ∧ (p w = true → ∀ k : Dt → Store → Prop, k (f w) S → me σ1 S k (fun _ _ => False))) →
    acc.length + ws.length ≤ sizeLine → Q (acc ++ (ws.filter p).map f) S → compW b mt me σ vs (fun _ => True) Q ws acc S
  | [], acc, _, _, q => by
    unfold compW
    rw [List.filter_nil, List.map_nil, List.append_nil] at q
    exact ⟨trivial, q⟩
  | w :: ws, acc, h, hl, q => by
    unfold compW
    refine ⟨trivial, ?_⟩
    obtain ⟨σ1, e, ht, hm⟩ := h w List.mem_cons_self
    rw [e]
    rw [List.length_cons] at hl
    refine ht _ ?_
    by_cases hp : p w = true
    · rw [hp]
      refine hm hp _ ⟨by omega, comp_filter p f ws (acc ++ [f w]) (fun w' h' => h w' (List.mem_cons_of_mem _ h')) (by rw [List.length_append, List.length_singleton]; omega) ?_⟩
      rw [List.filter_cons_of_pos hp] at q
      rw [List.append_assoc]
      exact q
    · rw [Bool.not_eq_true] at hp
      rw [hp]
      refine comp_filter p f ws acc (fun w' h' => h w' (List.mem_cons_of_mem _ h')) (by omega) ?_
      rw [List.filter_cons_of_neg (by rw [hp]; exact Bool.false_ne_true)] at q
      exact q
/-- plain data: no class, no instance, nothing that is changed -/
def pl : Dt → Bool
  | .non | .bl _ | .int _ | .str _ => true
  | .tup ws => plL ws
  | .lst ws => plL ws
  | .dK _ ws => plL ws
  | .dT _ ws => plL ws
  | _ => false
where plL : List Dt → Bool
  | [] => true
  | w :: ws => pl w && plL ws
theorem plL_all : ∀ {ws : List Dt}, pl.plL ws = true → ∀ w ∈ ws, pl w = true
  | [], _, w, h => by cases h
  | a :: ws, e, w, h => by
    unfold pl.plL at e
    rw [Bool.and_eq_true] at e
    rcases List.mem_cons.mp h with rfl | h
    · exact e.1
    · exact plL_all e.2 w h
theorem plL_of : ∀ {ws : List Dt}, (∀ w ∈ ws, pl w = true) → pl.plL ws = true
  | [], _ => rfl
  | a :: ws, h => by
    unfold pl.plL
    rw [h a List.mem_cons_self, plL_of fun w q => h w (List.mem_cons_of_mem _ q)]
    rfl
theorem kn_pl {S : Store} {w : Dt} (h : pl w = true) : kn S w := by
  cases w <;> first | exact ⟨_, rfl⟩ | (unfold pl at h; cases h)
theorem pl_tup {ws : List Dt} (h : pl (.tup ws) = true) : ∀ w ∈ ws, pl w = true := by unfold pl at h; exact plL_all h
theorem pl_tup_of {ws : List Dt} (h : ∀ w ∈ ws, pl w = true) : pl (.tup ws) = true := by unfold pl; exact plL_of h
theorem pl_ints (bs : List Int) : pl (.tup (bs.map Dt.int)) = true := pl_tup_of fun w h => by
  obtain ⟨i, _, rfl⟩ := List.mem_map.mp h
  rfl
/-! ### what a law tells by its own comparison -/
mutual
def sameW : Dt → Dt → Bool
  | a, .non => isNon a
  | a, .bl b => isBlW a b
  | .int i, .int j => decide (i = j)
  | .str x, .str y => decide (x = y)
  | .tup as, .tup bs => sameL as bs
  | .lst as, .lst bs => sameL as bs
  | _, _ => false
def sameL : List Dt → List Dt → Bool
  | [], [] => true
  | a :: as, b :: bs => sameW a b && sameL as bs
  | _, _ => false
end
def nice : Dt → Bool
  | .non | .bl _ | .int _ | .str _ => true
  | .tup ws => niceL ws
  | .lst ws => niceL ws
  | _ => false
where niceL : List Dt → Bool
  | [] => true
  | w :: ws => nice w && niceL ws
def dep : Dt → Nat
  | .tup ws => 1 + depL ws
  | .lst ws => 1 + depL ws
  | _ => 0
where depL : List Dt → Nat
  | [] => 0
  | w :: ws => max (dep w) (depL ws)
mutual
theorem sameW_self : ∀ {w : Dt}, nice w = true → sameW w w = true
  | .non, _ => by unfold sameW; rfl
  | .bl b, _ => by unfold sameW isBlW; cases b <;> rfl
  | .int i, _ => by unfold sameW; exact decide_eq_true rfl
  | .str i, _ => by unfold sameW; exact decide_eq_true rfl
  | .tup ws, h => by unfold sameW; unfold nice at h; exact sameL_self h
  | .lst ws, h => by unfold sameW; unfold nice at h; exact sameL_self h
  | .kl _, h => by unfold nice at h; cases h
  | .kt _, h => by unfold nice at h; cases h
  | .ty _, h => by unfold nice at h; cases h
  | .ins _ _ _, h => by unfold nice at h; cases h
  | .dK _ _, h => by unfold nice at h; cases h
  | .dT _ _, h => by unfold nice at h; cases h
  | .exn _ _ _ _, h => by unfold nice at h; cases h
  | .ref _, h => by unfold nice at h; cases h
theorem sameL_self : ∀ {ws : List Dt}, nice.niceL ws = true → sameL ws ws = true
  | [], _ => by unfold sameL; rfl
  | w :: ws, h => by
    unfold nice.niceL at h
    rw [Bool.and_eq_true] at h
    unfold sameL
    rw [sameW_self h.1, sameL_self h.2]
    rfl
end
theorem sameL_len : ∀ {as bs : List Dt}, as.length ≠ bs.length → sameL as bs = false
  | [], [], h => absurd rfl h
  | [], _ :: _, _ => by unfold sameL; rfl
  | _ :: _, [], _ => by unfold sameL; rfl
  | a :: as, b :: bs, h => by
    unfold sameL
    rw [sameL_len (as := as) (bs := bs) fun e => h (by rw [List.length_cons, List.length_cons, e]), Bool.and_false]
theorem sameL_at : ∀ {as bs : List Dt} {i : Nat} {x y : Dt}, as[i]? = some x → bs[i]? = some y → sameW x y = false → sameL as bs = false
  | [], _, i, x, y, h, _, _ => by simp at h
  | _ :: _, [], i, x, y, _, h, _ => by simp at h
  | a :: as, b :: bs, 0, x, y, h1, h2, h => by
    simp at h1 h2
    subst h1 h2
    unfold sameL
    rw [h, Bool.false_and]
  | a :: as, b :: bs, i + 1, x, y, h1, h2, h => by
    unfold sameL
    rw [sameL_at (i := i) (by simpa using h1) (by simpa using h2) h, Bool.and_false]
theorem sameL_all : ∀ {as bs : List Dt}, as.length = bs.length → (∀ (i : Nat) (x y : Dt), as[i]? = some x → bs[i]? = some y → sameW x y = true) → sameL as bs = true
  | [], [], _, _ => by unfold sameL; rfl
  | [], _ :: _, h, _ => by simp at h
  | _ :: _, [], h, _ => by simp at h
  | a :: as, b :: bs, h, k => by
    unfold sameL
    rw [k 0 a b rfl rfl, sameL_all (as := as) (bs := bs) (by simpa using h) fun i x y h1 h2 => k (i + 1) x y (by simpa using h1) (by simpa using h2)]
    rfl
theorem niceL_at : ∀ {ws : List Dt} {i : Nat} {w : Dt}, nice.niceL ws = true → ws[i]? = some w → nice w = true ∧ dep w ≤ dep.depL ws
  | [], i, w, _, h => by simp at h
  | a :: ws, 0, w, h, e => by
    unfold nice.niceL at h
    rw [Bool.and_eq_true] at h
    simp at e
    subst e
    unfold dep.depL
    exact ⟨h.1, Nat.le_max_left _ _⟩
  | a :: ws, i + 1, w, h, e => by
    unfold nice.niceL at h
    rw [Bool.and_eq_true] at h
    have := niceL_at (i := i) h.2 (by simpa using e)
    unfold dep.depL
    exact ⟨this.1, Nat.le_trans this.2 (Nat.le_max_right _ _)⟩
theorem cal_false {P : Program} {w : World} {K : Frg} {mg : Str → Option Value} {base : Heap} {x y : Str} {st : Stmt} {ps : List Str} {k n : Nat} (D : Dfn2 K mg x y st ps) : Cal P w K mg base x k ps n (fun _ _ _ _ => False) :=
  let ⟨f, fd, a, F, b⟩ := D
  ⟨f, fd, a, F.kp, b, ⟨fun _ _ _ _ ⟨_, _, _, _, _, _, _, _, g, _⟩ => g.elim, fun _ _ _ _ _ _ _ _ _ _ _ _ _ ⟨_, _, _, _, _, _, _, _, g, _⟩ => g.elim⟩⟩
/-- a number within bounds -/
def inW : Dt → Int → Int → Bool
  | .int i, lo, hi => decide (lo ≤ i) && decide (i ≤ hi)
  | _, _, _ => false
/-- a row of bytes -/
def rowW : Dt → Bool
  | .tup xs => decide (xs.length ≤ 300000) && xs.all (inW · 0 255)
  | _ => false
theorem rowW_of {w : Dt} (h : rowW w = true) : ∃ bs : List Int, w = .tup (bs.map Dt.int) ∧ bs.length ≤ 300000 ∧ ∀ b ∈ bs, 0 ≤ b ∧ b ≤ 255 := by
  cases w with
  | tup xs =>
    unfold rowW at h
    rw [Bool.and_eq_true] at h
    obtain ⟨h1, h2⟩ := h
    have : ∀ xs : List Dt, xs.all (inW · 0 255) = true → ∃ bs : List Int, xs = bs.map Dt.int ∧ ∀ b ∈ bs, 0 ≤ b ∧ b ≤ 255 := by
      intro xs
      induction xs with
      | nil => exact fun _ => ⟨[], rfl, fun b h => by cases h⟩
      | cons x xs ih =>
        intro h
        rw [List.all_cons, Bool.and_eq_true] at h
        obtain ⟨bs, e, hb⟩ := ih h.2
        cases x with
        | int i =>
          have hi := h.1
          unfold inW at hi
          rw [Bool.and_eq_true] at hi
          refine ⟨i :: bs, by rw [e]; rfl, fun b hb' => ?_⟩
          rcases List.mem_cons.mp hb' with rfl | hb'
          · exact ⟨of_decide_eq_true hi.1, of_decide_eq_true hi.2⟩
          · exact hb b hb'
        | _ => exact Bool.noConfusion (show false = true from h.1)
    obtain ⟨bs, e, hb⟩ := this xs h2
    refine ⟨bs, by rw [e], ?_, hb⟩
    have := of_decide_eq_true h1
    rw [e, List.length_map] at this
    exact this
  | _ => exact Bool.noConfusion (show false = true from h)
theorem rowW_ints {bs : List Int} (h1 : bs.length ≤ 300000) (h2 : ∀ b ∈ bs, 0 ≤ b ∧ b ≤ 255) : rowW (.tup (bs.map Dt.int)) = true := by
  unfold rowW
  rw [Bool.and_eq_true, List.length_map]
  refine ⟨decide_eq_true h1, List.all_eq_true.mpr fun x hx => ?_⟩
  obtain ⟨i, hi, rfl⟩ := List.mem_map.mp hx
  show (decide ((0 : Int) ≤ i) && decide (i ≤ 255)) = true
  rw [decide_eq_true (h2 i hi).1, decide_eq_true (h2 i hi).2]
  rfl
theorem sup_comm {S : Store} {a b : Addr} {o u : Ob} (h : a ≠ b) : sup (sup S a o) b u = sup (sup S b u) a o := by
  funext c
  unfold sup
  by_cases e : c = b
  · rw [if_pos e, if_neg (fun z => h (z.symm.trans e)), if_pos e]
  · by_cases e2 : c = a
    · rw [if_neg e, if_pos e2, if_pos e2]
    · rw [if_neg e, if_neg e2, if_neg e2, if_neg e]
theorem atI_mem {xs : List Dt} {i : Int} {w : Dt} (h : atI xs i = some w) : w ∈ xs := by
  unfold atI at h
  cases e : ixN xs.length i with
  | none => rw [e] at h; cases h
  | some j =>
    rw [e] at h
    exact List.mem_of_getElem? h
theorem atI_some {xs : List Dt} {i : Int} (h0 : 0 ≤ i) (h1 : i < (xs.length : Int)) : ∃ w, atI xs i = some w ∧ w ∈ xs := by
  have hl : i.toNat < xs.length := by omega
  refine ⟨xs[i.toNat], ?_, List.getElem_mem hl⟩
  unfold atI ixN
  rw [if_pos h0, if_pos h1]
  exact List.getElem?_eq_getElem hl
def bytesOf : Dt → List Int
  | .tup xs => xs.map fun x => match x with | .int i => i | _ => 0
  | _ => []
theorem bytesOf_ints (bs : List Int) : bytesOf (.tup (bs.map Dt.int)) = bs := by
  show (bs.map Dt.int).map (fun x => match x with | .int i => i | _ => 0) = bs
  rw [List.map_map]
  exact List.map_id' bs
theorem atI_ints {ns : List Int} {p : Int} (h0 : 0 ≤ p) (h : p < (ns.length : Int)) : ∃ x, atI (ns.map Dt.int) p = some (.int x) := by
  have hl : p.toNat < ns.length := by omega
  refine ⟨ns[p.toNat], ?_⟩
  unfold atI ixN
  rw [List.length_map, if_pos h0, if_pos h]
  show (ns.map Dt.int)[p.toNat]? = _
  rw [List.getElem?_map, List.getElem?_eq_getElem hl]
  rfl
theorem log_small {n : Int} (h : n.natAbs < 2 ^ 64) : n.natAbs.log2 < 9000 := by
  have := PySem.Flt.log2_lt_of (by decide : 0 < 64) h
  omega
theorem lsv_ref {S : Store} {a : Addr} {ws : List Dt} (h : S a = some (.lst ws)) : lsv S (.ref a) = some ws := by
  show (match S a with | some (.lst ws) => some ws | _ => none) = _
  rw [h]
theorem ty_lst {S : Store} {a : Addr} {ws : List Dt} (h : S a = some (.lst ws)) : tyW "list" S (.ref a) = true := by
  show (lsv S (.ref a)).isSome = true
  rw [lsv_ref h]
  rfl
theorem sup_at {S : Store} {a b : Addr} {o u : Ob} (h : a ≠ b) : sup (sup S a o) b u a = some o := by rw [sup_ne h, sup_same]
theorem sup_set {S : Store} {a b : Addr} {o u v : Ob} (h : a ≠ b) : sup (sup (sup S a o) b u) a v = sup (sup S a v) b u := by
  rw [sup_comm (Ne.symm h), sup_sup]
theorem rowW_tup (xs : List Dt) : rowW (.tup xs) = (decide (xs.length ≤ 300000) && xs.all (inW · 0 255)) := rfl
theorem cutW_take {α : Type} {xs : List α} {i : Int} (h0 : 0 ≤ i) : cutW xs none (some i) = xs.take i.toNat := by
  unfold cutW HT.sIx
  show (xs.drop 0).take ((if i < 0 then (i + (xs.length : Int)).toNat else min i.toNat xs.length) - 0) = _
  rw [if_neg (by omega), List.drop_zero, Nat.sub_zero]
  by_cases h : i.toNat ≤ xs.length
  · rw [Nat.min_eq_left h]
  · rw [Nat.min_eq_right (by omega), List.take_of_length_le (Nat.le_refl _), List.take_of_length_le (by omega)]
theorem cutW_drop {α : Type} {xs : List α} {i : Int} (h0 : 0 ≤ i) : cutW xs (some i) none = xs.drop i.toNat := by
  unfold cutW HT.sIx
  show (xs.drop (if i < 0 then (i + (xs.length : Int)).toNat else min i.toNat xs.length)).take (xs.length - (if i < 0 then (i + (xs.length : Int)).toNat else min i.toNat xs.length)) = _
  rw [if_neg (by omega), List.take_of_length_le (by rw [List.length_drop]; omega)]
  by_cases h : i.toNat ≤ xs.length
  · rw [Nat.min_eq_left h]
  · rw [Nat.min_eq_right (by omega), List.drop_of_length_le (Nat.le_refl _), List.drop_of_length_le (by omega)]
theorem ints_inj : ∀ {bs cs : List Int}, bs.map Dt.int = cs.map Dt.int → bs = cs
  | [], [], _ => rfl
  | [], _ :: _, h => nomatch h
  | _ :: _, [], h => nomatch h
  | b :: bs, c :: cs, h => by
    rw [List.map_cons, List.map_cons] at h
    injection h with h1 h2
    injection h1 with h1
    rw [h1, ints_inj h2]
theorem tup_ints_inj {bs cs : List Int} (h : Dt.tup (bs.map Dt.int) = .tup (cs.map Dt.int)) : bs = cs := by
  injection h with h
  exact ints_inj h
theorem inW_int {i lo hi : Int} (h0 : lo ≤ i) (h1 : i ≤ hi) : inW (.int i) lo hi = true := by
  show (decide (lo ≤ i) && decide (i ≤ hi)) = true
  rw [decide_eq_true h0, decide_eq_true h1]
  rfl
theorem atI_get {xs : List Dt} {i : Int} (h0 : 0 ≤ i) : atI xs i = xs[i.toNat]? := by
  unfold atI ixN
  rw [if_pos h0]
  by_cases h : i < (xs.length : Int)
  · rw [if_pos h]
    rfl
  · rw [if_neg h, List.getElem?_eq_none (by omega)]
    rfl
theorem inW_of {w : Dt} {lo hi : Int} (h : inW w lo hi = true) : ∃ i, w = .int i ∧ lo ≤ i ∧ i ≤ hi := by
  cases w with
  | int i =>
    have h : (decide (lo ≤ i) && decide (i ≤ hi)) = true := h
    rw [Bool.and_eq_true, decide_eq_true_eq, decide_eq_true_eq] at h
    exact ⟨i, rfl, h⟩
  | _ => exact Bool.noConfusion (show false = true from h)
theorem nice_ints (bs : List Int) : nice (.tup (bs.map Dt.int)) = true := by
  show nice.niceL (bs.map Dt.int) = true
  induction bs with
  | nil => rfl
  | cons b bs ih =>
    show (nice (.int b) && nice.niceL (bs.map Dt.int)) = true
    rw [ih]
    rfl
theorem depL_ints (bs : List Int) : dep.depL (bs.map Dt.int) = 0 := by
  induction bs with
  | nil => rfl
  | cons b bs ih =>
    show max (dep (.int b)) (dep.depL (bs.map Dt.int)) = 0
    rw [ih]
    rfl
theorem dep_ints (bs : List Int) : dep (.tup (bs.map Dt.int)) ≤ 1 := by
  show 1 + dep.depL (bs.map Dt.int) ≤ 1
  rw [depL_ints]
  exact Nat.le_refl _
theorem pl_pair {a b : Dt} (ha : pl a = true) (hb : pl b = true) : pl (.tup [a, b]) = true := pl_tup_of fun w h => by
  simp only [List.mem_cons, List.not_mem_nil, or_false] at h
  rcases h with rfl | rfl
  · exact ha
  · exact hb
theorem nice_pair {a b : Dt} (ha : nice a = true) (hb : nice b = true) : nice (.tup [a, b]) = true := by
  show (nice a && (nice b && true)) = true
  rw [ha, hb]
  rfl
theorem dep_pair {a b : Dt} (ha : dep a ≤ 0) (hb : dep b ≤ 1) : dep (.tup [a, b]) < 4 := by
  show 1 + max (dep a) (max (dep b) 0) < 4
  omega
theorem eqDL_ints : ∀ as bs : List Int, eqDL (as.map Dt.int) (bs.map Dt.int) = decide (as = bs)
  | [], [] => by unfold eqDL; rfl
  | [], b :: bs => by unfold eqDL; rfl
  | a :: as, [] => by unfold eqDL; rfl
  | a :: as, b :: bs => by
    rw [List.map_cons, List.map_cons]
    unfold eqDL
    rw [eqDL_ints as bs]
    unfold eqD
    by_cases h : a = b
    · by_cases h2 : as = bs <;> simp [h, h2]
    · simp [h]
theorem eqD_ints (as bs : List Int) : eqD (.tup (as.map Dt.int)) (.tup (bs.map Dt.int)) = decide (as = bs) := by
  unfold eqD
  exact eqDL_ints as bs
theorem fl_ints (k : Nat) (bs : List Int) : fl (k + 1) (.tup (bs.map Dt.int)) = true := by
  show (bs.map Dt.int).all (fl k) = true
  rw [List.all_eq_true]
  intro w hw
  obtain ⟨i, _, rfl⟩ := List.mem_map.mp hw
  cases k <;> rfl
/-- a comprehension whose element is taken from a store that moves -/
theorem comp_move {b : BW} {me : ME} {σ : Env} {vs : List Nat} {Q : List Dt → Store → Prop} (I : Nat → List Dt → Store → Prop) {all : List Dt} :
    ∀ (ws : List Dt) (i : Nat) (acc : List Dt) (S : Store), ws = all.drop i → i ≤ all.length → acc.length = i → all.length ≤ sizeLine → I i acc S →
    (∀ (i : Nat) (w : Dt) (acc : List Dt) (S : Store), all[i]? = some w → I i acc S → ∃ σ1, b w (wipeW σ vs) = some σ1 ∧ ∀ k : Dt → Store → Prop, (∀ y S', I (i + 1) (acc ++ [y]) S' → k y S') → me σ1 S k (fun _ _ => False)) →
    (∀ acc S, I all.length acc S → Q acc S) → compW b mYes me σ vs (fun _ => True) Q ws acc S
  | [], i, acc, S, e, hi, ha, hz, h0, hs, he => by
    unfold compW
    have : all.length ≤ i := by
      have := congrArg List.length e
      rw [List.length_nil, List.length_drop] at this
      omega
    have e2 : i = all.length := by omega
    subst e2
    exact ⟨trivial, he acc S h0⟩
  | w :: ws, i, acc, S, e, hi, ha, hz, h0, hs, he => by
    unfold compW
    refine ⟨trivial, ?_⟩
    have hl : i < all.length := by
      have := congrArg List.length e
      rw [List.length_cons, List.length_drop] at this
      omega
    have hd := List.drop_eq_getElem_cons hl
    rw [← e] at hd
    injection hd with h1 h2
    obtain ⟨σ1, eb, hm⟩ := hs i w acc S (by rw [List.getElem?_eq_getElem hl, ← h1]) h0
    rw [eb]
    show mYes σ1 S _ _
    unfold mYes
    exact hm _ fun y S' h' => ⟨by omega, comp_move I ws (i + 1) (acc ++ [y]) S' h2 (by omega) (by rw [List.length_append, ha]; rfl) hz h' hs he⟩
theorem cutW_mid {α : Type} {xs : List α} {lo hi : Int} (h0 : 0 ≤ lo) (h1 : lo ≤ hi) : cutW xs (some lo) (some hi) = (xs.drop lo.toNat).take (hi - lo).toNat := by
  unfold cutW HT.sIx
  show (xs.drop (if lo < 0 then (lo + (xs.length : Int)).toNat else min lo.toNat xs.length)).take ((if hi < 0 then (hi + (xs.length : Int)).toNat else min hi.toNat xs.length) - (if lo < 0 then (lo + (xs.length : Int)).toNat else min lo.toNat xs.length)) = _
  rw [if_neg (by omega), if_neg (by omega)]
  by_cases h : lo.toNat ≤ xs.length
  · rw [Nat.min_eq_left h]
    by_cases h2 : hi.toNat ≤ xs.length
    · rw [Nat.min_eq_left h2]
      congr 1
      omega
    · rw [Nat.min_eq_right (by omega), List.take_of_length_le (by rw [List.length_drop]; omega), List.take_of_length_le (by rw [List.length_drop]; omega)]
  · rw [show min lo.toNat xs.length = xs.length by omega, List.drop_of_length_le (Nat.le_refl _), List.drop_of_length_le (by omega), List.take_nil, List.take_nil]
theorem cutW_ints {bs : List Int} {a n : Nat} {m : Int} (hm : m = (n : Int)) : cutW (bs.map Dt.int) (some (a : Int)) (some ((a : Int) + m)) = ((bs.drop a).take n).map Dt.int := by
  subst hm
  rw [cutW_mid (by omega) (by omega), show ((a : Int) + (n : Int) - (a : Int)).toNat = n by omega, List.map_take, List.map_drop, Int.toNat_natCast]
theorem eqD_pair (a b c d : Dt) : eqD (.tup [a, b]) (.tup [c, d]) = (eqD a c && eqD b d) := by
  show eqDL [a, b] [c, d] = _
  show (eqD a c && (eqD b d && eqDL [] [])) = _
  rw [show eqDL [] [] = true from rfl, Bool.and_true]
theorem fl_pair {k : Nat} {a b : Dt} (ha : fl k a = true) (hb : fl k b = true) : fl (k + 1) (.tup [a, b]) = true := by
  show (fl k a && (fl k b && true)) = true
  rw [ha, hb]
  rfl
end Dn

namespace Dn
open PySem PySem.Spec PyProof.Rows L2
/-! ### own classes: fields, methods, making -/
section
variable {X : Cx} {CX : CXT} {k : Nat} {C f : Addr} {fd : FuncData} {ps : List Str} {sp : Sp} {E : L2.St → XK} {x m : Str} {p pos apos : Pos} {e o : Expr} {es : List Expr} {t : TA} {ta : TE}
def tMethS (C : Addr) (m : Str) (sp : Sp) (E : L2.St → XK) (ta : TE) (t : TA) : TE := fun σ H Q => ta σ H fun x H1 => ∃ a dx fs, x = .ref a ∧ H1 a = some (.ins C dx fs) ∧ fs.lookup m = none ∧ t σ H1 fun vs H2 => sp (x :: vs) H2 Q (E σ)
theorem pe_methD {pl : Sem Bool} (he : PE X o ta) (c : Cls X.K C) (hm : Meth X.K C m f) (F : FnOk X.prog X.w X.K X.mg X.base CX k f fd ps sp) (hr : Room k X.A) (hb : Binds X.K fd ps []) (hx : ∀ σ, PassesAt CX X σ (E σ)) (ha : PA X (e :: es) t)
    (hst : starEach (e :: es) X.env = (false, eval e X.env) :: starEach es X.env := by rfl) (hpl : (backTo pos (starEach es X.env)).any (·.1) = false := by rfl)
    (ht : eval (.Call (.Attribute o m apos) (e :: es) [] pos) X.env = (do
      let ov ← eval o X.env
      standAt apos.atName
      let (f, first) ← holding [ov] (getMethod ov m pl)
      callWith pos f first (backTo pos (starEach (e :: es) X.env)) (backToKw pos (keywordEach [] X.env))) := by rfl) :
    PE X (.Call (.Attribute o m apos) (e :: es) [] pos) (tMethS C m sp E ta t) := by
  refine ⟨fun pins s σ H Q I h => ?_⟩
  refine PySem.W.methodCall_KW (pl := pl) (thn (he.run pins s σ H _ I h) fun u s1 ⟨x, H1, I1, rx, a, dx, fs, ex, ea, l, q⟩ => ?_) ht
  subst ex
  obtain rfl : u = Value.ref a := rx
  refine getmeth_ok I1 ea c hm l ?_
  refine PySem.W.callWith_K (first := [.ref a]) (h₀ := X.base) I.ok.mod.kin hm.kp (thn (ha.run pos pins s1 σ H1 _ I1 q) fun us s2 ⟨vs, H2, I2, r, q2⟩ => ⟨I2.kIn, ?_⟩) hst hpl
  exact run_fnSD (us := .ref a :: us) (vs := .ref a :: vs) F hr hb .nil (hx σ) I2 (.cons rfl r) (by rw [List.append_nil]; exact q2)
theorem pe_methD0 {pl : Sem Bool} (he : PE X o ta) (c : Cls X.K C) (hm : Meth X.K C m f) (F : FnOk X.prog X.w X.K X.mg X.base CX k f fd ps sp) (hr : Room k X.A) (hb : Binds X.K fd ps []) (hx : ∀ σ, PassesAt CX X σ (E σ))
    (ht : eval (.Call (.Attribute o m apos) [] [] pos) X.env = (do
      let ov ← eval o X.env
      standAt apos.atName
      let (f, first) ← holding [ov] (getMethod ov m pl)
      callWith pos f first (backTo pos (starEach [] X.env)) (backToKw pos (keywordEach [] X.env))) := by rfl) :
    PE X (.Call (.Attribute o m apos) [] [] pos) (tMethS C m sp E ta tNil) := by
  refine ⟨fun pins s σ H Q I h => ?_⟩
  refine PySem.W.methodCall_KW (pl := pl) (thn (he.run pins s σ H _ I h) fun u s1 ⟨x, H1, I1, rx, a, dx, fs, ex, ea, l, q⟩ => ?_) ht
  subst ex
  obtain rfl : u = Value.ref a := rx
  refine getmeth_ok I1 ea c hm l ?_
  exact PySem.W.callWith_K0 (first := [.ref a]) I1.kIn hm.kp (run_fnSD (us := [.ref a]) (vs := [.ref a]) F hr hb .nil (hx σ) I1 (.cons rfl .nil) q)
theorem run_makeD {pins : List (Addr × Obj)} {σ : L2.St} {H : Hp} {s : Shared} {Q : VK} {us : List Value} {vs : List V} {E : XK} (M : Mk X.K C f) (F : FnOk X.prog X.w X.K X.mg X.base CX k f fd ps sp) (hr : Room (k + 1) X.A) (hb : Binds X.K fd ps [])
    (hx : PassesAt CX X σ E) (I : L2.Inv X pins σ H s) (r : Vals vs us)
    (h : ∀ x dx, H x = none → H dx = none → dx ≠ x → sp (.ref x :: vs) (upd (upd H dx (.own x)) x (.ins C dx [])) (fun v H2 => v = .non ∧ Q (.ref x) H2) E) :
    wpAny (model X.prog X.w) X.A (call (.ref C) us) (EP X pins σ Q) X.xe s := by
  have hq := h (s.heap.objs.size + 1) s.heap.objs.size (I.hok.fresh (Nat.le_succ _)) (I.hok.fresh (Nat.le_refl _)) (Nat.ne_of_lt (Nat.lt_succ_self _))
  have I2 := L2.Inv.made (C := C) I
  have r2 : Vals (V.ref (s.heap.objs.size + 1) :: vs) (Value.ref (s.heap.objs.size + 1) :: us) := .cons rfl r
  have hl : (Value.ref (s.heap.objs.size + 1) :: us ++ []).length = ps.length := by
    have e := r2.length
    rw [F.len _ _ _ _ hq] at e
    rw [List.append_nil]
    exact e.symm
  refine wpAny_call (make_map (f := f) I.kIn M.makes M.init (beq_iff_eq.mp M.fn) (codeAny_mono (F.run _ X.stack _ _ ⟨Value.ref (s.heap.objs.size + 1) :: us, []⟩ (Value.ref (s.heap.objs.size + 1) :: us) _ _ E (hr.make C us [])
    (I2.env0.make C us []) (by have := hb _ (Value.ref (s.heap.objs.size + 1) :: us) I2.kIn hl; rwa [List.append_nil] at this) r2 hq) fun r s' hq' => ?_))
  cases r with
  | error e => exact hx pins _ _ e s' I2 hq'
  | ok fl =>
    cases fl with
    | ret u =>
      obtain ⟨v, H', I3, rv, ev, q3⟩ := I2.after hq'
      subst ev
      exact ⟨rv, ⟨V.ref (s.heap.objs.size + 1), H', I3, rfl, q3⟩⟩
    | next => exact False.elim hq'
    | brk => exact False.elim hq'
    | cont => exact False.elim hq'
def tMakeS (C : Addr) (sp : Sp) (E : L2.St → XK) (t : TA) : TE := fun σ H Q => t σ H fun vs H1 => ∀ x dx, H1 x = none → H1 dx = none → dx ≠ x →
  sp (.ref x :: vs) (upd (upd H1 dx (.own x)) x (.ins C dx [])) (fun v H2 => v = .non ∧ Q (.ref x) H2) (E σ)
theorem pe_makeS (M : Mk X.K C f) (F : FnOk X.prog X.w X.K X.mg X.base CX k f fd ps sp) (hr : Room (k + 1) X.A) (hg : Gl X x) (hm : X.mg x = some (.ref C)) (hb : Binds X.K fd ps []) (hx : ∀ σ, PassesAt CX X σ (E σ))
    (ha : PA X (e :: es) t) (hdb : (x == ("__debug__" : Str)) = false := by decide) (he : starEach (e :: es) X.env = (false, eval e X.env) :: starEach es X.env := by rfl) (hpl : (backTo pos (starEach es X.env)).any (·.1) = false := by rfl) :
    PE X (.Call (.Name x p) (e :: es) [] pos) (tMakeS C sp E t) := by
  refine ⟨fun pins s σ H Q I h => ?_⟩
  refine wpAny_Call_Name_kw (ld_glob I hg hm ?_ hdb)
  refine PySem.W.callWith_K (h₀ := X.base) I.ok.mod.kin M.kp (thn (ha.run pos pins s σ H _ I h) fun us s1 ⟨vs, H1, I1, r, q⟩ => ⟨I1.kIn, ?_⟩) he hpl
  exact run_makeD M F hr hb (hx σ) I1 r q
theorem pe_makeS0 (M : Mk X.K C f) (F : FnOk X.prog X.w X.K X.mg X.base CX k f fd ps sp) (hr : Room (k + 1) X.A) (hg : Gl X x) (hm : X.mg x = some (.ref C)) (hb : Binds X.K fd ps []) (hx : ∀ σ, PassesAt CX X σ (E σ))
    (hdb : (x == ("__debug__" : Str)) = false := by decide) : PE X (.Call (.Name x p) [] [] pos) (tMakeS C sp E tNil) := by
  refine ⟨fun pins s σ H Q I h => ?_⟩
  refine wpAny_Call_Name_kw (ld_glob I hg hm ?_ hdb)
  exact PySem.W.callWith_K0 I.kIn M.kp (run_makeD (us := []) M F hr hb (hx σ) I .nil h)
end
/-! ### fields by their places -/
theorem zip_lookup {f : Str} : ∀ {ns : List Str} {i : Nat} {xs : List V} {v : V}, ns[i]? = some f → (∀ j, j < i → ns[j]? ≠ some f) → xs[i]? = some v → (ns.zip xs).lookup f = some v
  | [], i, xs, v, h, _, _ => by simp at h
  | n :: ns, 0, xs, v, h, _, hx => by
    cases xs with
    | nil => simp at hx
    | cons y xs =>
      simp at h hx
      subst h hx
      simp [List.lookup]
  | n :: ns, i + 1, xs, v, h, hn, hx => by
    cases xs with
    | nil => simp at hx
    | cons y xs =>
      have hne : (f == n) = false := by
        have := hn 0 (Nat.succ_pos _)
        simp at this
        simpa using fun z => this z.symm
      show (match f == n with | true => some y | false => (ns.zip xs).lookup f) = some v
      rw [hne]
      exact zip_lookup (i := i) (by simpa using h) (fun j hj => by have := hn (j + 1) (Nat.succ_lt_succ hj); simpa using this) (by simpa using hx)
theorem zip_no {f : Str} : ∀ {ns : List Str} {xs : List V}, f ∉ ns → (ns.zip xs).lookup f = none
  | [], xs, h => rfl
  | n :: ns, [], h => rfl
  | n :: ns, y :: xs, h => by
    rw [List.mem_cons, not_or] at h
    have hne : (f == n) = false := by simpa using h.1
    show (match f == n with | true => some y | false => (ns.zip xs).lookup f) = none
    rw [hne]
    exact zip_no h.2
theorem zip_put {f : Str} {u : V} : ∀ {ns : List Str} {i : Nat} {xs : List V}, ns[i]? = some f → (∀ j, j < i → ns[j]? ≠ some f) → xs.length = ns.length → putF f u (ns.zip xs) = ns.zip (xs.set i u)
  | [], i, xs, h, _, _ => by simp at h
  | n :: ns, 0, xs, h, _, hl => by
    cases xs with
    | nil => simp at hl
    | cons y xs =>
      simp at h
      subst h
      show (if n = n then _ else _) = _
      rw [if_pos rfl]
      rfl
  | n :: ns, i + 1, xs, h, hn, hl => by
    cases xs with
    | nil => simp at hl
    | cons y xs =>
      have hne : ¬ n = f := by
        have := hn 0 (Nat.succ_pos _)
        simpa using this
      show (if n = f then _ else _) = _
      rw [if_neg hne]
      have ih := zip_put (f := f) (u := u) (ns := ns) (i := i) (xs := xs) (by simpa using h) (fun j hj => by have := hn (j + 1) (Nat.succ_lt_succ hj); simpa using this) (by simpa using hl)
      exact congrArg (fun z => (n, y) :: z) ih
theorem zip_new {f : Str} {u : V} : ∀ {ns : List Str} {xs : List V}, f ∉ ns → xs.length = ns.length → putF f u (ns.zip xs) = (ns ++ [f]).zip (xs ++ [u])
  | [], xs, h, hl => by
    have : xs = [] := List.eq_nil_of_length_eq_zero (by simpa using hl)
    subst this
    rfl
  | n :: ns, xs, h, hl => by
    cases xs with
    | nil => simp at hl
    | cons y xs =>
      rw [List.mem_cons, not_or] at h
      show (if n = f then _ else _) = _
      rw [if_neg (fun z => h.1 z.symm)]
      exact congrArg (fun z => (n, y) :: z) (zip_new h.2 (by simpa using hl))
/-- the field f stands at place i of ns, and nowhere ahead -/
def FieldAt (ns : List Str) (i : Nat) (f : Str) : Prop := ns[i]? = some f ∧ ∀ j, j < i → ns[j]? ≠ some f
theorem fieldAt_of {ns : List Str} {i : Nat} {f : Str} (h : ns[i]? = some f ∧ f ∉ ns.take i) : FieldAt ns i f := ⟨h.1, fun j hj e => h.2 (by
  have : (ns.take i)[j]? = some f := by rw [List.getElem?_take_of_lt hj]; exact e
  exact List.mem_of_getElem? this)⟩
theorem Wd.putI {K : Frg} {P : Hid} {S : Store} {H : Hp} (W : Wd K P S H) {a C dx : Addr} {ns : List Str} {ws : List Dt} {xs : List V} {u : Ob} (ea : S a = some u) (hz : ns.length = ws.length) (rl : RpL K P (sup S a (.ins C ns ws)) (upd H a (.ins C dx (ns.zip xs))) ws xs) :
    Wd K P (sup S a (.ins C ns ws)) (upd H a (.ins C dx (ns.zip xs))) := W.put (b := .ins C ns ws) (W.nohid ea) (fun n => by rw [ea] at n; cases n) ⟨dx, xs, upd_same, hz, rl⟩
/-- a class of which instances have plain fields -/
structure FldC (K : Frg) (C : Addr) (f : Str) : Prop where
  cl : Cls K C
  no : NoAttr K C f
/-- a field's value -/
def fldQ (C0 : Addr) (ns0 : List Str) (i : Nat) (Q : Dt → Store → Prop) (w : Dt) (S : Store) : Prop := match w with
  | .ins C ns ws => C = C0 ∧ ns = ns0 ∧ (match ws[i]? with | some v => Q v S | none => False)
  | .ref a => match S a with
    | some (.ins C ns ws) => C = C0 ∧ ns = ns0 ∧ (match ws[i]? with | some v => Q v S | none => False)
    | _ => False
  | _ => False
def mFld (C0 : Addr) (ns0 : List Str) (i : Nat) (me : ME) : ME := fun σ S Q Ex => me σ S (fldQ C0 ns0 i Q) Ex
section
variable {X : Cx} {E : WX}
theorem je_fld {C0 : Addr} {ns0 : List Str} {i : Nat} {f : Str} {e : Expr} {me : ME} {pos : Pos} (T : FldC X.K C0 f) (hi : FieldAt ns0 i f) (he : JE X E e me) (hb : attributeBase e f X.env (eval e X.env) = eval e X.env := by rfl) :
    JE X E (.Attribute e f pos) (mFld C0 ns0 i me) := PE.weak (pe_fld he hb) fun σv H Qv q => by
  obtain ⟨P, S, σ, Q, Ex, W, r, m, nq, nx⟩ := q
  refine ⟨P, S, σ, _, Ex, W, r, m, fun v H1 w S1 W1 r1 e1 m1 => ?_, nx⟩
  unfold fldQ at m1
  split at m1
  · rename_i C ns ws
    obtain ⟨rfl, rfl, m1⟩ := m1
    split at m1
    · rename_i u eu
      unfold Rp at r1
      obtain ⟨a, dx, xs, rfl, fz, hz, rl⟩ := r1
      obtain ⟨y, ey, ry⟩ := rl.get eu
      exact ⟨a, _, dx, _, y, rfl, fz.1, T.cl, T.no, zip_lookup hi.1 hi.2 ey, nq y H1 u S1 W1 ry e1 m1⟩
    · exact m1.elim
  · rename_i a
    split at m1
    · rename_i C ns ws ea
      obtain ⟨rfl, rfl, m1⟩ := m1
      split at m1
      · rename_i u eu
        rw [rp_ref] at r1
        subst r1
        obtain ⟨dx, xs, eh, hz, rl⟩ := W1.sim a _ ea
        obtain ⟨y, ey, ry⟩ := rl.get eu
        exact ⟨a, _, dx, _, y, rfl, eh, T.cl, T.no, zip_lookup hi.1 hi.2 ey, nq y H1 u S1 W1 ry e1 m1⟩
      · exact m1.elim
    · exact m1.elim
  · exact m1.elim
/-- a field is set -/
def stF (C0 : Addr) (ns0 : List Str) (i : Nat) (v : Dt) (Q : Store → Prop) (w : Dt) (S : Store) : Prop := match w with
  | .ref a => match S a with
    | some (.ins C ns ws) => C = C0 ∧ ns = ns0 ∧ Q (sup S a (.ins C ns (ws.set i v)))
    | _ => False
  | _ => False
/-- a field more, in __init__ -/
def stN (C0 : Addr) (ns0 ns1 : List Str) (v : Dt) (Q : Store → Prop) (w : Dt) (S : Store) : Prop := match w with
  | .ref a => match S a with
    | some (.ins C ns ws) => C = C0 ∧ ns = ns0 ∧ Q (sup S a (.ins C ns1 (ws ++ [v])))
    | _ => False
  | _ => False
def mSetF (C0 : Addr) (ns0 : List Str) (i : Nat) (mo mv : ME) : MS := fun D σ S => mv σ S (fun v S1 => mo σ S1 (fun w S2 => stF C0 ns0 i v (fun S3 => D.nx σ S3) w S2) (fun x S' => D.ex x σ S')) (fun x S' => D.ex x σ S')
def mNewF (C0 : Addr) (ns0 ns1 : List Str) (mo mv : ME) : MS := fun D σ S => mv σ S (fun v S1 => mo σ S1 (fun w S2 => stN C0 ns0 ns1 v (fun S3 => D.nx σ S3) w S2) (fun x S' => D.ex x σ S')) (fun x S' => D.ex x σ S')
theorem js_setF {C0 : Addr} {ns0 : List Str} {i : Nat} {f : Str} {o value : Expr} {mo mv : ME} {pos pos' : Pos} (T : FldC X.K C0 f) (hi : FieldAt ns0 i f) (hn : ns0.length < 1000) (ho : JE X E o mo) (hv : JE X E value mv)
    (hs : swapsWith value (some (.Attribute o f pos')) pos.line X.env = pure false := by rfl) : JS X E (.Assign [.Attribute o f pos'] value pos) (mSetF C0 ns0 i mo mv) := PS.weak (ps_fld ho hv hs) fun σv H D q => by
  obtain ⟨P, S, σ, Dw, W, r, m, d⟩ := q
  refine ⟨P, S, σ, _, _, W, r, m, fun v H1 w S1 W1 r1 e1 m1 => ?_, d.ex.at r⟩
  refine ⟨P, S1, σ, _, _, W1, r.mono e1, m1, fun u H2 z S2 W2 r2 e2 m2 => ?_, (d.ex.at r).after e1⟩
  unfold stF at m2
  dsimp only at m2
  split at m2
  · rename_i a
    split at m2
    · rename_i C ns ws ea
      obtain ⟨rfl, rfl, m2⟩ := m2
      rw [rp_ref] at r2
      subst r2
      obtain ⟨dx, xs, eh, hz, rl⟩ := W2.sim a _ ea
      have hl : xs.length = ns.length := by rw [← rl.length]; exact hz.symm
      refine ⟨a, _, dx, _, rfl, eh, T.cl, T.no, by rw [List.length_zip]; omega, ?_⟩
      rw [zip_put hi.1 hi.2 hl]
      have ev : Evo S2 H2 (sup S2 a (.ins C ns (ws.set i w))) (upd H2 a (.ins C dx (ns.zip (xs.set i v)))) := Evo.set ea
      have rs := (rl.set i (r1.mono e2)).mono ev
      exact d.nx _ _ _ _ (W2.putI ea (by rw [List.length_set]; exact hz) rs) (r.mono ((e1.trans e2).trans ev)) ((e1.trans e2).trans ev) m2
    · exact m2.elim
  · exact m2.elim
theorem js_newF {C0 : Addr} {ns0 ns1 : List Str} {f : Str} {o value : Expr} {mo mv : ME} {pos pos' : Pos} (T : FldC X.K C0 f) (hi : f ∉ ns0) (h1 : ns1 = ns0 ++ [f]) (hn : ns0.length < 1000) (ho : JE X E o mo) (hv : JE X E value mv)
    (hs : swapsWith value (some (.Attribute o f pos')) pos.line X.env = pure false := by rfl) : JS X E (.Assign [.Attribute o f pos'] value pos) (mNewF C0 ns0 ns1 mo mv) := PS.weak (ps_fld ho hv hs) fun σv H D q => by
  obtain ⟨P, S, σ, Dw, W, r, m, d⟩ := q
  refine ⟨P, S, σ, _, _, W, r, m, fun v H1 w S1 W1 r1 e1 m1 => ?_, d.ex.at r⟩
  refine ⟨P, S1, σ, _, _, W1, r.mono e1, m1, fun u H2 z S2 W2 r2 e2 m2 => ?_, (d.ex.at r).after e1⟩
  unfold stN at m2
  dsimp only at m2
  split at m2
  · rename_i a
    split at m2
    · rename_i C ns ws ea
      obtain ⟨rfl, rfl, m2⟩ := m2
      rw [rp_ref] at r2
      subst r2
      obtain ⟨dx, xs, eh, hz, rl⟩ := W2.sim a _ ea
      have hl : xs.length = ns.length := by rw [← rl.length]; exact hz.symm
      refine ⟨a, _, dx, _, rfl, eh, T.cl, T.no, by rw [List.length_zip]; omega, ?_⟩
      rw [zip_new hi hl, ← h1]
      have ev : Evo S2 H2 (sup S2 a (.ins C ns1 (ws ++ [w]))) (upd H2 a (.ins C dx (ns1.zip (xs ++ [v])))) := Evo.set ea
      have rs := (rl.append (RpL.cons (r1.mono e2) RpL.nil)).mono ev
      exact d.nx _ _ _ _ (W2.putI ea (by rw [h1, List.length_append, List.length_append, hz]; rfl) rs) (r.mono ((e1.trans e2).trans ev)) ((e1.trans e2).trans ev) m2
    · exact m2.elim
  · exact m2.elim
def pyIAddI : Op2
  | .int i, .int j, S, Q => Q (.int (i + j)) S
  | _, _, _, _ => False
/-- o.f op= e -/
def mAugF (C0 : Addr) (ns0 : List Str) (i : Nat) (g : Op2) (mo mv : ME) : MS := fun D σ S => mo σ S (fun w S1 => match w with
  | .ref a => fldQ C0 ns0 i (fun u S1 => mv σ S1 (fun v S2 => g u v S2 (fun z S3 => stF C0 ns0 i z (fun S4 => D.nx σ S4) (.ref a) S3)) (fun x S' => D.ex x σ S')) (.ref a) S1
  | _ => False) (fun x S' => D.ex x σ S')
def InOpR (X : Cx) (op : Operator) (r : R2) : Prop := InOp X op r
theorem js_augF {C0 : Addr} {ns0 : List Str} {i : Nat} {f : Str} {o value : Expr} {mo mv : ME} {op : Operator} {g : Op2} {tpos pos : Pos} (T : FldC X.K C0 f) (hi : FieldAt ns0 i f) (hn : ns0.length < 1000) (ho : JE X E o mo) (hv : JE X E value mv) (hop : InOp X op (rd2 X.K g)) :
    JS X E (.AugAssign (.Attribute o f tpos) op value pos) (mAugF C0 ns0 i g mo mv) := PS.weak (ps_fldaug ho hv hop) fun σv H D q => by
  obtain ⟨P, S, σ, Dw, W, r, m, d⟩ := q
  refine ⟨P, S, σ, _, _, W, r, m, fun u0 H1 w S1 W1 r1 e1 m1 => ?_, d.ex.at r⟩
  dsimp only at m1
  split at m1
  · rename_i a
    unfold fldQ at m1
    dsimp only at m1
    split at m1
    · rename_i C ns ws ea
      obtain ⟨rfl, rfl, m1⟩ := m1
      split at m1
      · rename_i u eu
        rw [rp_ref] at r1
        subst r1
        obtain ⟨dx, xs, eh, hz, rl⟩ := W1.sim a _ ea
        obtain ⟨y, ey, ry⟩ := rl.get eu
        refine ⟨a, _, dx, _, y, rfl, eh, T.cl, T.no, zip_lookup hi.1 hi.2 ey, ?_⟩
        refine ⟨P, S1, σ, _, _, W1, r.mono e1, m1, fun v H2 z S2 W2 r2 e2 m2 => ?_, (d.ex.at r).after e1⟩
        refine ⟨P, S2, u, z, _, W2, ry.mono e2, r2, m2, fun v3 H3 z3 S3 W3 r3 e3 m3 => ?_⟩
        unfold stF at m3
        dsimp only at m3
        split at m3
        · rename_i C2 ns2 ws2 ea2
          obtain ⟨rfl, rfl, m3⟩ := m3
          obtain ⟨dx2, xs2, eh2, hz2, rl2⟩ := W3.sim a _ ea2
          have hl : xs2.length = ns2.length := by rw [← rl2.length]; exact hz2.symm
          refine ⟨dx2, _, eh2, by rw [List.length_zip]; omega, ?_⟩
          rw [zip_put hi.1 hi.2 hl]
          have ev : Evo S3 H3 (sup S3 a (.ins C2 ns2 (ws2.set i z3))) (upd H3 a (.ins C2 dx2 (ns2.zip (xs2.set i v3)))) := Evo.set ea2
          have rs := (rl2.set i r3).mono ev
          have ee := ((e1.trans e2).trans e3).trans ev
          exact d.nx _ _ _ _ (W3.putI ea2 (by rw [List.length_set]; exact hz2) rs) (r.mono ee) ee m3
        · exact m3.elim
      · exact m1.elim
    · exact m1.elim
  · exact m1.elim
theorem in_addW : InOp X .Add (rd2 X.K pyIAddI) := by
  intro pins s σ H x y u v Q I rx ry h
  obtain ⟨P, S, w, z, Qw, W, r1, r2, g, nq⟩ := h
  unfold pyIAddI at g
  split at g
  · rename_i i j
    rw [rp_int] at r1 r2
    exact in_add pins s σ H x y u v Q I rx ry ⟨i, j, r1, r2, nq.now W rpInt g⟩
  · exact g.elim
end
/-! ### {k: v, ..} -/
def kyW : Key → Dt
  | .inl i => .int i
  | .inr x => .str x
theorem kyW_V {K : Frg} {P : Hid} {S : Store} {H : Hp} {k : Key} {v : V} (r : Rp K P S H (kyW k) v) : v = kV k := by
  cases k with
  | inl i => exact rp_int.mp r
  | inr i => exact rp_str.mp r
def mPairs : List (ME × ME) → Env → Store → (List (Dt × Dt) → Store → Prop) → (Exn → Store → Prop) → Prop
  | [], _, S, Q, _ => Q [] S
  | (mk, mv) :: r, σ, S, Q, Ex => mk σ S (fun x S1 => mv σ S1 (fun y S2 => mPairs r σ S2 (fun ps S3 => Q ((x, y) :: ps) S3) Ex) Ex) Ex
inductive JPs (X : Cx) (E : WX) (pos : Pos) : List (Option Expr) → List Expr → List (ME × ME) → Prop where
  | nil : JPs X E pos [] [] []
  | cons {k v : Expr} {ks : List (Option Expr)} {vs : List Expr} {mk mv : ME} {ms : List (ME × ME)} (hk : JE X E k mk) (hv : JE X E v mv) (hr : JPs X E pos ks vs ms) : JPs X E pos (some k :: ks) (v :: vs) ((mk, mv) :: ms)
def trsOf (K : Frg) (E : WX) (ms : List (ME × ME)) : List (TE × TE) := ms.map fun p => (rdE K E p.1, rdE K E p.2)
theorem JPs.pps {X : Cx} {E : WX} {pos : Pos} : ∀ {ks : List (Option Expr)} {vs : List Expr} {ms : List (ME × ME)}, JPs X E pos ks vs ms → PPs X pos ks vs (trsOf X.K E ms)
  | _, _, _, .nil => pps_nil
  | _, _, _, .cons hk hv hr => pps_cons hk hv hr.pps
theorem JPs.len {X : Cx} {E : WX} {pos : Pos} : ∀ {ks : List (Option Expr)} {vs : List Expr} {ms : List (ME × ME)}, JPs X E pos ks vs ms → ks.all (·.isSome) = true ∧ ks.length = vs.length
  | _, _, _, .nil => ⟨rfl, rfl⟩
  | _, _, _, .cons hk hv hr => ⟨by rw [List.all_cons, hr.len.1]; rfl, by rw [List.length_cons, List.length_cons, hr.len.2]⟩
def zipKy : List (Dt × Dt) → List Key → List Dt → Prop
  | [], [], [] => True
  | (x, y) :: ps, k :: ks, w :: ws => x = kyW k ∧ y = w ∧ zipKy ps ks ws
  | _, _, _ => False
def RpP (K : Frg) (P : Hid) (S : Store) (H : Hp) : List (Dt × Dt) → List (V × V) → Prop
  | [], [] => True
  | (x, y) :: ps, (u, v) :: qs => Rp K P S H x u ∧ Rp K P S H y v ∧ RpP K P S H ps qs
  | _, _ => False
theorem RpP.mono {K : Frg} {P : Hid} {S S' : Store} {H H' : Hp} (e : Evo S H S' H') : ∀ {ps : List (Dt × Dt)} {qs : List (V × V)}, RpP K P S H ps qs → RpP K P S' H' ps qs
  | [], [], _ => trivial
  | (x, y) :: ps, (u, v) :: qs, ⟨a, b, c⟩ => ⟨a.mono e, b.mono e, RpP.mono e c⟩
  | [], _ :: _, h => h.elim
  | _ :: _, [], h => h.elim
theorem pairs_weak {K : Frg} {E : WX} : ∀ {ms : List (ME × ME)} {P : Hid} {S : Store} {H : Hp} {σ : Env} {σv : L2.St} {Q : List (Dt × Dt) → Store → Prop} {Qv : List (V × V) → Hp → Prop} {Ex : Exn → Store → Prop}, Wd K P S H → RpS K P S H σ σv → mPairs ms σ S Q Ex →
    (∀ ps qs S' H', Wd K P S' H' → RpP K P S' H' ps qs → Evo S H S' H' → Q ps S' → Qv qs H') → NX K P S H Ex (fun c d H' => E c d σv H') → tPairs (trsOf K E ms) σv H Qv
  | [], P, S, H, σ, σv, Q, Qv, Ex, W, r, m, nq, nx => nq [] [] S H W trivial Evo.refl m
  | (mk, mv) :: ms, P, S, H, σ, σv, Q, Qv, Ex, W, r, m, nq, nx => by
    refine ⟨P, S, σ, _, Ex, W, r, m, fun u H1 x S1 W1 r1 e1 m1 => ?_, nx⟩
    refine ⟨P, S1, σ, _, Ex, W1, r.mono e1, m1, fun v H2 y S2 W2 r2 e2 m2 => ?_, nx.after e1⟩
    exact pairs_weak W2 (r.mono (e1.trans e2)) m2 (fun ps qs S3 H3 W3 rp e3 q => nq ((x, y) :: ps) ((u, v) :: qs) S3 H3 W3 ⟨r1.mono (e2.trans e3), r2.mono e3, rp⟩ ((e1.trans e2).trans e3) q) (nx.after (e1.trans e2))
theorem zipKy_of {K : Frg} {P : Hid} {S : Store} {H : Hp} : ∀ {ps : List (Dt × Dt)} {qs : List (V × V)} {ks : List Key} {ws : List Dt}, RpP K P S H ps qs → zipKy ps ks ws → ∃ xs, qs = (ks.zip xs).map (fun kv => (kV kv.1, kv.2)) ∧ ks.length = ws.length ∧ RpL K P S H ws xs
  | [], [], [], [], _, _ => ⟨[], rfl, rfl, RpL.nil⟩
  | (x, y) :: ps, (u, v) :: qs, k :: ks, w :: ws, ⟨a, b, c⟩, ⟨z1, z2, z3⟩ => by
    obtain ⟨xs, e, l, rl⟩ := zipKy_of c z3
    subst z1 z2
    have := kyW_V a
    subst this
    exact ⟨v :: xs, by rw [e]; rfl, by rw [List.length_cons, List.length_cons, l], RpL.cons b rl⟩
  | [], _ :: _, _, _, h, _ => h.elim
  | _ :: _, [], _, _, h, _ => h.elim
  | [], [], _ :: _, _, _, h => h.elim
  | [], [], [], _ :: _, _, h => h.elim
  | (_, _) :: _, _ :: _, [], _, _, h => h.elim
  | (_, _) :: _, _ :: _, _ :: _, [], _, h => h.elim
theorem mergeK_zip : ∀ {ks : List Key} {xs : List V} (acc : List (Key × V)), (∀ k ∈ ks, valV acc k = none) → ks.Nodup → ks.length = xs.length → mergeK acc (ks.zip xs) = acc ++ ks.zip xs
  | [], xs, acc, _, _, _ => (List.append_nil _).symm
  | k :: ks, [], acc, _, _, h => by simp at h
  | k :: ks, x :: xs, acc, h, nd, hl => by
    show mergeK (putK acc k x) (ks.zip xs) = acc ++ (k, x) :: ks.zip xs
    rw [putK_new _ (h k List.mem_cons_self)]
    rw [List.nodup_cons] at nd
    rw [mergeK_zip _ (fun k' hk' => ?_) nd.2 (by simpa using hl), List.append_assoc]
    · rfl
    · have h1 := h k' (List.mem_cons_of_mem _ hk')
      unfold valV at h1 ⊢
      rw [List.find?_append]
      rw [Option.map_eq_none_iff] at h1
      rw [h1]
      have : ¬ (k = k') := fun z => nd.1 (z ▸ hk')
      simp [this]
/-- a new dict -/
abbrev MD := Env → Store → (List Key → List Dt → Store → Prop) → (Exn → Store → Prop) → Prop
def rdD (K : Frg) (E : WX) (m : MD) : TE := fun σv H Qv => ∃ P S σ Q Ex, Wd K P S H ∧ RpS K P S H σ σv ∧ m σ S Q Ex ∧
  (∀ p H' H1 (xs : List V) (ks : List Key) (ws : List Dt) S', Wd K P S' H' → H' p = none → H1 = upd H' p (.dK (ks.zip xs)) → ks.length = ws.length → RpL K P S' H' ws xs → Evo S H S' H' → Q ks ws S' → Qv (.ref p) H1) ∧ NX K P S H Ex (fun c d H' => E c d σv H')
def JD (X : Cx) (E : WX) (e : Expr) (m : MD) : Prop := PE X e (rdD X.K E m)
def mFrzD (m : MD) : ME := fun σ S Q Ex => m σ S (fun ks ws S1 => Q (.dK ks ws) S1) Ex
def mRefD (m : MD) : ME := fun σ S Q Ex => m σ S (fun ks ws S1 => ∀ p, S1 p = none → Q (.ref p) (sup S1 p (.dK ks ws))) Ex
abbrev MDT := Env → Store → (List (List Key) → List Dt → Store → Prop) → (Exn → Store → Prop) → Prop
def rdDT (K : Frg) (E : WX) (m : MDT) : TE := fun σv H Qv => ∃ P S σ Q Ex, Wd K P S H ∧ RpS K P S H σ σv ∧ m σ S Q Ex ∧
  (∀ p H' H1 (xs : List V) (ks : List (List Key)) (ws : List Dt) S', Wd K P S' H' → H' p = none → H1 = upd H' p (.dT (ks.zip xs)) → ks.length = ws.length → RpL K P S' H' ws xs → Evo S H S' H' → Q ks ws S' → Qv (.ref p) H1) ∧ NX K P S H Ex (fun c d H' => E c d σv H')
def JDT (X : Cx) (E : WX) (e : Expr) (m : MDT) : Prop := PE X e (rdDT X.K E m)
def mFrzT (m : MDT) : ME := fun σ S Q Ex => m σ S (fun ks ws S1 => Q (.dT ks ws) S1) Ex
def mRefT (m : MDT) : ME := fun σ S Q Ex => m σ S (fun ks ws S1 => ∀ p, S1 p = none → Q (.ref p) (sup S1 p (.dT ks ws))) Ex
def mNewD : MD := fun _ S Q _ => Q [] [] S
def mNewT : MDT := fun _ S Q _ => Q [] [] S
/-- a display whose keys are unlike ints and texts -/
def mDisp (ms : List (ME × ME)) : MD := fun σ S Q Ex => mPairs ms σ S (fun ps S1 => ∃ ks ws, zipKy ps ks ws ∧ ks.Nodup ∧ ks.length ≤ 15 ∧ Q ks ws S1) Ex
section
variable {X : Cx} {E : WX}
theorem je_frzD {e : Expr} {m : MD} (h : JD X E e m) : JE X E e (mFrzD m) := PE.weak h fun σv H Qv q => by
  obtain ⟨P, S, σ, Q, Ex, W, r, m, nq, nx⟩ := q
  refine ⟨P, S, σ, _, Ex, W, r, m, fun p H' H1 xs ks ws S' W' hp e1 hl rl ev q => ?_, nx⟩
  subst e1
  refine nq (.ref p) _ (.dK ks ws) S' (W'.new hp) ?_ (ev.trans (Evo.new hp)) q
  unfold Rp
  exact ⟨p, xs, rfl, Fz.new W' hp, hl, rl.mono (Evo.new hp)⟩
theorem je_refD {e : Expr} {m : MD} (h : JD X E e m) : JE X E e (mRefD m) := PE.weak h fun σv H Qv q => by
  obtain ⟨P, S, σ, Q, Ex, W, r, m, nq, nx⟩ := q
  refine ⟨P, S, σ, _, Ex, W, r, m, fun p H' H1 xs ks ws S' W' hp e1 hl rl ev q => ?_, nx⟩
  subst e1
  have fr := W'.free hp
  refine nq (.ref p) _ (.ref p) (sup S' p (.dK ks ws)) (W'.put (b := .dK ks ws) fr.2 (fun _ => hp) ⟨xs, upd_same, hl, rl.mono (Evo.alloc hp)⟩) rpRef (ev.trans (Evo.alloc hp)) (q p fr.1)
theorem je_frzT {e : Expr} {m : MDT} (h : JDT X E e m) : JE X E e (mFrzT m) := PE.weak h fun σv H Qv q => by
  obtain ⟨P, S, σ, Q, Ex, W, r, m, nq, nx⟩ := q
  refine ⟨P, S, σ, _, Ex, W, r, m, fun p H' H1 xs ks ws S' W' hp e1 hl rl ev q => ?_, nx⟩
  subst e1
  refine nq (.ref p) _ (.dT ks ws) S' (W'.new hp) ?_ (ev.trans (Evo.new hp)) q
  unfold Rp
  exact ⟨p, xs, rfl, Fz.new W' hp, hl, rl.mono (Evo.new hp)⟩
theorem je_refT {e : Expr} {m : MDT} (h : JDT X E e m) : JE X E e (mRefT m) := PE.weak h fun σv H Qv q => by
  obtain ⟨P, S, σ, Q, Ex, W, r, m, nq, nx⟩ := q
  refine ⟨P, S, σ, _, Ex, W, r, m, fun p H' H1 xs ks ws S' W' hp e1 hl rl ev q => ?_, nx⟩
  subst e1
  have fr := W'.free hp
  refine nq (.ref p) _ (.ref p) (sup S' p (.dT ks ws)) (W'.put (b := .dT ks ws) fr.2 (fun _ => hp) ⟨xs, upd_same, hl, rl.mono (Evo.alloc hp)⟩) rpRef (ev.trans (Evo.alloc hp)) (q p fr.1)
theorem jd_new {pos : Pos} : JD X E (.Dict [] [] pos) mNewD := PE.weak pe_dnewK fun σv H Qv q => by
  obtain ⟨P, S, σ, Q, Ex, W, r, m, nq, nx⟩ := q
  exact fun p hp => nq p H _ [] [] [] S W hp rfl rfl RpL.nil Evo.refl m
theorem jd_newT {pos : Pos} : JDT X E (.Dict [] [] pos) mNewT := PE.weak pe_dnewT fun σv H Qv q => by
  obtain ⟨P, S, σ, Q, Ex, W, r, m, nq, nx⟩ := q
  exact fun p hp => nq p H _ [] [] [] S W hp rfl rfl RpL.nil Evo.refl m
/-- while a new object at p is made: it is hidden -/
theorem hide {K : Frg} {P : Hid} {S : Store} {H : Hp} {p : Addr} {o : HO} (W : Wd K P S H) (hp0 : H p = none) : Wd K (fun b => P b ∨ b = p) S (upd H p o) := by
  have nD : ∀ {a o}, H a = some o → a ≠ p := fun h z => by rw [z, hp0] at h; cases h
  refine ⟨fun a o e => ?_, fun a q => ?_⟩
  · exact (W.sim a o e).conv (fun a' o' h' n' p' => ⟨by rw [upd_ne (nD h')]; exact h', n', fun q => q.elim p' fun z => nD h' z⟩) (fun u hu => by rw [upd_ne (nD hu)]; exact hu)
  · rcases q with q | q
    · obtain ⟨h1, u, h2⟩ := W.hid a q
      exact ⟨h1, u, by rw [upd_ne (nD h2)]; exact h2⟩
    · rw [q]; exact ⟨(W.free hp0).1, _, upd_same⟩
theorem unhide {K : Frg} {P : Hid} {S S2 : Store} {H H2 : Hp} {p : Addr} {o ob : HO} (W : Wd K P S H) (hp0 : H p = none) (W2 : Wd K (fun b => P b ∨ b = p) S2 H2) (e2 : Evo S (upd H p o) S2 H2) :
    Wd K P S2 (hdel H2 p) ∧ Evo S H S2 (hdel H2 p) ∧ S2 p = none ∧ H2 p = some o ∧ (∀ a o, H2 a = some o → S2 a = none → ¬ (P a ∨ a = p) → hdel H2 p a = some o ∧ S2 a = none ∧ ¬ P a) ∧ hdel H2 p p = none ∧ upd (hdel H2 p) p ob = upd H2 p ob := by
  have fr := W.free hp0
  have nD : ∀ {a o}, H a = some o → a ≠ p := fun h z => by rw [z, hp0] at h; cases h
  have sD := (W2.hid p (.inr rfl)).1
  have dn : ∀ {a : Addr}, a ≠ p → hdel H2 p a = H2 a := fun {a} z => by unfold hdel; rw [if_neg z]
  have c : ∀ a o, H2 a = some o → S2 a = none → ¬ (P a ∨ a = p) → hdel H2 p a = some o ∧ S2 a = none ∧ ¬ P a := fun a o h n q => ⟨by rw [dn fun z => q (.inr z)]; exact h, n, fun z => q (.inl z)⟩
  refine ⟨⟨fun a o e => (W2.sim a o e).conv c fun u hu => by rw [dn fun z => by rw [z, sD] at e; cases e]; exact hu, fun a q => ?_⟩, fun a o n h => ?_, sD, (e2 p _ fr.1 upd_same).1, c, by unfold hdel; rw [if_pos rfl], ?_⟩
  · obtain ⟨h1, u, h2⟩ := W2.hid a (.inl q)
    have ne : a ≠ p := fun z => fr.2 (by rw [← z]; exact q)
    exact ⟨h1, u, by rw [dn ne]; exact h2⟩
  · obtain ⟨h1, h2⟩ := e2 a o n (by rw [upd_ne (nD h)]; exact h)
    exact ⟨by rw [dn (nD h)]; exact h1, h2⟩
  · funext a
    by_cases z : a = p
    · rw [z, upd_same, upd_same]
    · rw [upd_ne z, upd_ne z, dn z]
theorem jd_disp {pos : Pos} {keys : List (Option Expr)} {values : List Expr} {ms : List (ME × ME)} (h : JPs X E pos keys values ms) (h0 : keys ≠ []) (h15 : keys.length ≤ 15) : JD X E (.Dict keys values pos) (mDisp ms) :=
  PE.weak (pe_disp h.pps h.len.1 h.len.2 h0 h15) fun σv H Qv q => by
  obtain ⟨P, S, σ, Q, Ex, W, r, m, nq, nx⟩ := q
  intro p hp0
  have hp : ∀ b, (P b ∨ b = p) → P b ∨ H b = none := fun b h => h.imp id fun z => by rw [z]; exact hp0
  have r1 : RpS X.K (fun b => P b ∨ b = p) S (upd H p (.dK [])) σ σv := ⟨r.1, fun j z q => by
    obtain ⟨v, a, b⟩ := r.2 j z q
    exact ⟨v, a, rp_live hp (Evo.new hp0) b⟩⟩
  refine pairs_weak (hide W hp0) r1 m (fun ps qs S2 H2 W2 rp e2 q => ?_) (fun cl dd H2 x S2 W2 rx e2 q => ?_)
  · obtain ⟨ks, ws, hz, nd, hl, q⟩ := q
    obtain ⟨xs, rfl, hlen, rl⟩ := zipKy_of rp hz
    have hx : ks.length = xs.length := by rw [hlen]; exact rl.length
    obtain ⟨W3, e3, sD, hD, c, hn, hu⟩ := unhide (ob := .dK (mergeK [] (ks.zip xs))) W hp0 W2 e2
    refine ⟨hD, ks.zip xs, rfl, by rw [List.length_zip]; omega, ?_⟩
    rw [← hu, mergeK_zip [] (fun _ _ => rfl) nd hx, List.nil_append]
    exact nq p _ _ xs ks ws S2 W3 hn rfl hlen (rl.conv c) e3 q
  · obtain ⟨W3, e3, sD, hD, c, hn, hu⟩ := unhide (ob := .dK []) W hp0 W2 e2
    have e4 : Evo S H S2 H2 := fun a o n h => ⟨(e2 a o n (by rw [upd_ne (ne_of_none h hp0)]; exact h)).1, (e3 a o n h).2⟩
    have W4 : Wd X.K P S2 H2 := by
      have : upd (hdel H2 p) p (.dK []) = H2 := by
        rw [hu]
        funext a
        by_cases z : a = p
        · rw [z, upd_same, hD]
        · rw [upd_ne z]
      rw [← this]
      exact W3.new hn
    exact nx _ _ H2 x S2 W4 (rx.conv fun a o h n q => ⟨h, n, fun z => q (.inl z)⟩) e4 q
end
/-! ### methods, making -/
/-- a method that keeps its promise -/
def CalM (P : Program) (w : World) (K : Frg) (mg : Str → Option Value) (base : Heap) (C : Addr) (m : Str) (k : Nat) (ps : List Str) (n : Nat) (G : Fw) : Prop :=
  ∃ (f : Addr) (fd : FuncData), Cls K C ∧ Meth K C m f ∧ Binds K fd ps [] ∧ FnOk P w K mg base (L2.CX P w) k f fd ps (spOf K n G)
theorem CalM.imp {P : Program} {w : World} {K : Frg} {mg : Str → Option Value} {base : Heap} {C : Addr} {m : Str} {k : Nat} {ps : List Str} {n : Nat} {G G' : Fw} (c : CalM P w K mg base C m k ps n G) (h : ∀ ws S Q Ex, ws.length = n → G' ws S Q Ex → G ws S Q Ex) : CalM P w K mg base C m k ps n G' :=
  let ⟨f, fd, a, b, c, d⟩ := c; ⟨f, fd, a, b, c, FnOk.impW d h⟩
/-- a class whose __init__ keeps its promise -/
def CalI (P : Program) (w : World) (K : Frg) (mg : Str → Option Value) (base : Heap) (x : Str) (C : Addr) (k : Nat) (ps : List Str) (n : Nat) (G : Fw) : Prop :=
  ∃ (f : Addr) (fd : FuncData), mg x = some (.ref C) ∧ Mk K C f ∧ Binds K fd ps [] ∧ FnOk P w K mg base (L2.CX P w) k f fd ps (spOf K n G)
/-- a def within a class -/
def DfnM (K : Frg) (C : Addr) (m qual : Str) (st : Stmt) (ps : List Str) : Prop := ∃ (f : Addr) (fd : FuncData), Cls K C ∧ Meth K C m f ∧ L2.Fun K m qual st f fd ∧ Binds K fd ps []
def DfnI (K : Frg) (mg : Str → Option Value) (x : Str) (C : Addr) (qual : Str) (st : Stmt) (ps : List Str) : Prop := ∃ (f : Addr) (fd : FuncData), mg x = some (.ref C) ∧ Mk K C f ∧ L2.Fun K "__init__" qual st f fd ∧ Binds K fd ps []
section
variable {P : Program} {w : World} {K : Frg} {mg : Str → Option Value} {base : Heap}
theorem calM_of {C : Addr} {m qual : Str} {st : Stmt} {N ps : List Str} {k n : Nat} (D : DfnM K C m qual st ps) (Sc : FnScope N ps (defScope st)) (G : Fw) (hn : ps.length = n)
    (hbody : ∀ (f : Addr) (cdv : Value) (A : Around) (outer : List PySem.Env) (s : Shared) (H : Hp) (E : XK), Room k (A.deeper (envOfC qual (defScope st) s.heap.objs.size f cdv)) →
      ∃ m, JSs (cxOf (L2.CX P w) P w K mg base N qual (defScope st) f cdv A outer s H E) (fun c d _ H' => E c d H') (defBody st) m ∧
        ∀ (ws : List Dt) (S : Store) (Q : Dt → Store → Prop) (Ex : Exn → Store → Prop), ws.length = n → G ws S Q Ex →
          m ⟨fun _ S' => clo Q .non S', clo Q, fun _ _ => False, fun _ _ => False, fun x _ S' => clX Ex x S'⟩ (startW N.length ws) S) : CalM P w K mg base C m (k + 1) ps n G :=
  let ⟨f, fd, c, a, F, b⟩ := D
  ⟨f, fd, c, a, b, ok_w F Sc G hn (hbody f)⟩
theorem calI_of {C : Addr} {x qual : Str} {st : Stmt} {N ps : List Str} {k n : Nat} (D : DfnI K mg x C qual st ps) (Sc : FnScope N ps (defScope st)) (G : Fw) (hn : ps.length = n)
    (hbody : ∀ (f : Addr) (cdv : Value) (A : Around) (outer : List PySem.Env) (s : Shared) (H : Hp) (E : XK), Room k (A.deeper (envOfC qual (defScope st) s.heap.objs.size f cdv)) →
      ∃ m, JSs (cxOf (L2.CX P w) P w K mg base N qual (defScope st) f cdv A outer s H E) (fun c d _ H' => E c d H') (defBody st) m ∧
        ∀ (ws : List Dt) (S : Store) (Q : Dt → Store → Prop) (Ex : Exn → Store → Prop), ws.length = n → G ws S Q Ex →
          m ⟨fun _ S' => clo Q .non S', clo Q, fun _ _ => False, fun _ _ => False, fun x _ S' => clX Ex x S'⟩ (startW N.length ws) S) : CalI P w K mg base x C (k + 1) ps n G :=
  let ⟨f, fd, c, a, F, b⟩ := D
  ⟨f, fd, c, a, b, ok_w F Sc G hn (hbody f)⟩
theorem calM_false {C : Addr} {m qual : Str} {st : Stmt} {ps : List Str} {k n : Nat} (D : DfnM K C m qual st ps) : CalM P w K mg base C m k ps n (fun _ _ _ _ => False) :=
  let ⟨f, fd, c, a, F, b⟩ := D
  ⟨f, fd, c, a, b, ⟨fun _ _ _ _ ⟨_, _, _, _, _, _, _, _, g, _⟩ => g.elim, fun _ _ _ _ _ _ _ _ _ _ _ _ _ ⟨_, _, _, _, _, _, _, _, g, _⟩ => g.elim⟩⟩
theorem calI_false {C : Addr} {x qual : Str} {st : Stmt} {ps : List Str} {k n : Nat} (D : DfnI K mg x C qual st ps) : CalI P w K mg base x C k ps n (fun _ _ _ _ => False) :=
  let ⟨f, fd, c, a, F, b⟩ := D
  ⟨f, fd, c, a, b, ⟨fun _ _ _ _ ⟨_, _, _, _, _, _, _, _, g, _⟩ => g.elim, fun _ _ _ _ _ _ _ _ _ _ _ _ _ ⟨_, _, _, _, _, _, _, _, g, _⟩ => g.elim⟩⟩
end
/-- an instance of the class C0 with the fields ns0 -/
def isIns (C0 : Addr) (ns0 : List Str) (w : Dt) (S : Store) (Q : Prop) : Prop := match w with
  | .ins C ns ws => C = C0 ∧ ns = ns0 ∧ Q
  | .ref a => match S a with
    | some (.ins C ns ws) => C = C0 ∧ ns = ns0 ∧ Q
    | _ => False
  | _ => False
def mMethod (C0 : Addr) (ns0 : List Str) (n : Nat) (G : Fw) (mo : ME) (ma : MA) : ME := fun σ S Q Ex => mo σ S (fun w S1 => isIns C0 ns0 w S1 (ma σ S1 (fun ws S2 => ws.length + 1 = n ∧ G (w :: ws) S2 Q Ex) Ex)) Ex
def mMakeR (C0 : Addr) (n : Nat) (G : Fw) (ma : MA) : ME := fun σ S Q Ex => ma σ S (fun ws S1 => ws.length + 1 = n ∧ ∀ p, S1 p = none → G (.ref p :: ws) (sup S1 p (.ins C0 [] [])) (fun w S2 => w = .non ∧ Q (.ref p) S2) Ex) Ex
/-- made, and changed no more -/
def frzQ (Q : Dt → Store → Prop) (w : Dt) (S : Store) : Prop := match w with
  | .ref a => match S a with
    | some (.ins C ns ws) => Q (.ins C ns ws) (sdel S a)
    | _ => False
  | _ => False
def mFrzI (me : ME) : ME := fun σ S Q Ex => me σ S (frzQ Q) Ex
theorem sdel_sup {S : Store} {a : Addr} {o : Ob} (h : S a = none) : sdel (sup S a o) a = S := by
  funext b
  unfold sdel sup
  by_cases e : b = a
  · rw [if_pos e, e, h]
  · rw [if_neg e, if_neg e]
section
variable {X : Cx} {E : WX}
theorem je_frzI {e : Expr} {me : ME} (he : JE X E e me) : JE X E e (mFrzI me) := PE.weak he fun σv H Qv q => by
  obtain ⟨P, S, σ, Q, Ex, W, r, m, nq, nx⟩ := q
  refine ⟨P, S, σ, _, Ex, W, r, m, fun v H1 w S1 W1 r1 e1 m1 => ?_, nx⟩
  unfold frzQ at m1
  split at m1
  · rename_i a
    split at m1
    · rename_i C ns ws ea
      have k := Wk.freezeI ea
      exact nq v H1 _ _ (W1.sub k.1) (k.2 X.K P H1 v W1 r1) (e1.sub k.1) m1
    · exact m1.elim
  · exact m1.elim
theorem isIns_of {C0 : Addr} {ns0 : List Str} {w : Dt} {S : Store} {Q : Prop} {K : Frg} {P : Hid} {H : Hp} {v : V} (W : Wd K P S H) (r : Rp K P S H w v) (h : isIns C0 ns0 w S Q) : (∃ a dx xs, v = .ref a ∧ H a = some (.ins C0 dx (ns0.zip xs))) ∧ Q := by
  unfold isIns at h
  split at h
  · obtain ⟨rfl, rfl, q⟩ := h
    unfold Rp at r
    obtain ⟨a, dx, xs, rfl, fz, hz, rl⟩ := r
    exact ⟨⟨a, dx, xs, rfl, fz.1⟩, q⟩
  · rename_i a
    split at h
    · rename_i C ns ws ea
      obtain ⟨rfl, rfl, q⟩ := h
      rw [rp_ref] at r
      obtain ⟨dx, xs, eh, hz, rl⟩ := W.sim a _ ea
      exact ⟨⟨a, dx, xs, r, eh⟩, q⟩
    · exact h.elim
  · exact h.elim
theorem je_method {C0 : Addr} {ns0 : List Str} {m : Str} {k n : Nat} {ps : List Str} {G : Fw} {o e : Expr} {es : List Expr} {mo : ME} {ma : MA} {apos pos : Pos} {pl : Sem Bool} (c : CalM X.prog X.w X.K X.mg X.base C0 m k ps n G) (hno : m ∉ ns0) (hr : Room k X.A) (tk : Takes X E) (ho : JE X E o mo) (ha : JA X E (e :: es) ma)
    (hst : starEach (e :: es) X.env = (false, eval e X.env) :: starEach es X.env := by rfl) (hpl : (backTo pos (starEach es X.env)).any (·.1) = false := by rfl)
    (ht : eval (.Call (.Attribute o m apos) (e :: es) [] pos) X.env = (do
      let ov ← eval o X.env
      standAt apos.atName
      let (f, first) ← holding [ov] (getMethod ov m pl)
      callWith pos f first (backTo pos (starEach (e :: es) X.env)) (backToKw pos (keywordEach [] X.env))) := by rfl) :
    JE X E (.Call (.Attribute o m apos) (e :: es) [] pos) (mMethod C0 ns0 n G mo ma) := by
  obtain ⟨f, fd, cl, hm, hb, F⟩ := c
  refine PE.weak (pe_methD ho cl hm F hr hb (fun σ => passAt tk σ) ha hst hpl ht) fun σv H Qv q => ?_
  obtain ⟨P, S, σ, Q, Ex, W, r, m, nq, nx⟩ := q
  refine ⟨P, S, σ, _, Ex, W, r, m, fun v H1 w S1 W1 r1 e1 m1 => ?_, nx⟩
  obtain ⟨⟨a, dx, xs, rfl, eh⟩, m1⟩ := isIns_of W1 r1 m1
  refine ⟨a, dx, _, rfl, eh, zip_no hno, P, S1, σ, _, Ex, W1, r.mono e1, m1, fun vs H2 ws S2 W2 r2 e2 m2 => ?_, nx.after e1⟩
  exact ⟨by rw [List.length_cons, ← r2.length]; exact m2.1, P, S2, w :: ws, Q, Ex, W2, RpL.cons (r1.mono e2) r2, m2.2, nq.after (e1.trans e2), nx.after (e1.trans e2)⟩
theorem je_method0 {C0 : Addr} {ns0 : List Str} {m : Str} {k n : Nat} {ps : List Str} {G : Fw} {o : Expr} {mo : ME} {apos pos : Pos} {pl : Sem Bool} (c : CalM X.prog X.w X.K X.mg X.base C0 m k ps n G) (hno : m ∉ ns0) (hr : Room k X.A) (tk : Takes X E) (ho : JE X E o mo)
    (ht : eval (.Call (.Attribute o m apos) [] [] pos) X.env = (do
      let ov ← eval o X.env
      standAt apos.atName
      let (f, first) ← holding [ov] (getMethod ov m pl)
      callWith pos f first (backTo pos (starEach [] X.env)) (backToKw pos (keywordEach [] X.env))) := by rfl) :
    JE X E (.Call (.Attribute o m apos) [] [] pos) (mMethod C0 ns0 n G mo mNil) := by
  obtain ⟨f, fd, cl, hm, hb, F⟩ := c
  refine PE.weak (pe_methD0 ho cl hm F hr hb (fun σ => passAt tk σ) ht) fun σv H Qv q => ?_
  obtain ⟨P, S, σ, Q, Ex, W, r, m, nq, nx⟩ := q
  refine ⟨P, S, σ, _, Ex, W, r, m, fun v H1 w S1 W1 r1 e1 m1 => ?_, nx⟩
  obtain ⟨⟨a, dx, xs, rfl, eh⟩, m1⟩ := isIns_of W1 r1 m1
  refine ⟨a, dx, _, rfl, eh, zip_no hno, ?_⟩
  exact ⟨by rw [List.length_cons]; exact m1.1, P, S1, [w], Q, Ex, W1, RpL.cons r1 RpL.nil, m1.2, nq.after e1, nx.after e1⟩
theorem make_weak {C0 : Addr} {n : Nat} {G : Fw} {P : Hid} {S1 : Store} {H1 : Hp} {ws : List Dt} {vs : List V} {Q : Dt → Store → Prop} {Qv : VK} {Ex : Exn → Store → Prop} {Ev : XK} (W1 : Wd X.K P S1 H1) (r1 : RpL X.K P S1 H1 ws vs)
    (m1 : ws.length + 1 = n ∧ ∀ p, S1 p = none → G (.ref p :: ws) (sup S1 p (.ins C0 [] [])) (fun w S2 => w = .non ∧ Q (.ref p) S2) Ex) (nq : NQ X.K P S1 H1 Q Qv) (nx : NX X.K P S1 H1 Ex Ev) :
    ∀ x dx, H1 x = none → H1 dx = none → dx ≠ x → spOf X.K n G (.ref x :: vs) (upd (upd H1 dx (.own x)) x (.ins C0 dx [])) (fun v H2 => v = .non ∧ Qv (.ref x) H2) Ev := by
  intro x dx hx hd hne
  have W2 : Wd X.K P S1 (upd H1 dx (.own x)) := W1.new hd
  have hx2 : upd H1 dx (.own x) x = none := by rw [upd_ne (Ne.symm hne)]; exact hx
  have e2 : Evo S1 H1 S1 (upd H1 dx (.own x)) := Evo.new hd
  have e3 : Evo S1 (upd H1 dx (.own x)) (sup S1 x (.ins C0 [] [])) (upd (upd H1 dx (.own x)) x (.ins C0 dx [])) := Evo.alloc hx2
  have W3 : Wd X.K P (sup S1 x (.ins C0 [] [])) (upd (upd H1 dx (.own x)) x (.ins C0 dx [])) := W2.put (W2.free hx2).2 (fun _ => hx2) ⟨dx, [], upd_same, rfl, RpL.nil⟩
  have e := e2.trans e3
  refine ⟨by rw [List.length_cons, ← r1.length]; exact m1.1, P, _, .ref x :: ws, _, Ex, W3, RpL.cons rpRef (r1.mono e), m1.2 x (W1.free hx).1, fun v H' w S' W' r' e' q => ?_, nx.after e⟩
  obtain ⟨rfl, q⟩ := q
  rw [rp_non] at r'
  exact ⟨r', nq (.ref x) H' (.ref x) S' W' rpRef (e.trans e') q⟩
theorem je_make {C0 : Addr} {x : Str} {k n : Nat} {ps : List Str} {G : Fw} {e : Expr} {es : List Expr} {ma : MA} {p pos : Pos} (c : CalI X.prog X.w X.K X.mg X.base x C0 k ps n G) (hr : Room (k + 1) X.A) (tk : Takes X E) (hg : Gl X x) (ha : JA X E (e :: es) ma)
    (hdb : (x == ("__debug__" : Str)) = false := by decide) (he : starEach (e :: es) X.env = (false, eval e X.env) :: starEach es X.env := by rfl) (hpl : (backTo pos (starEach es X.env)).any (·.1) = false := by rfl) :
    JE X E (.Call (.Name x p) (e :: es) [] pos) (mMakeR C0 n G ma) := by
  obtain ⟨f, fd, hm, M, hb, F⟩ := c
  refine PE.weak (pe_makeS M F hr hg hm hb (fun σ => passAt tk σ) ha hdb he hpl) fun σv H Qv q => ?_
  obtain ⟨P, S, σ, Q, Ex, W, r, m, nq, nx⟩ := q
  exact ⟨P, S, σ, _, Ex, W, r, m, fun vs H1 ws S1 W1 r1 e1 m1 => make_weak W1 r1 m1 (nq.after e1) (nx.after e1), nx⟩
theorem je_make0 {C0 : Addr} {x : Str} {k n : Nat} {ps : List Str} {G : Fw} {p pos : Pos} (c : CalI X.prog X.w X.K X.mg X.base x C0 k ps n G) (hr : Room (k + 1) X.A) (tk : Takes X E) (hg : Gl X x)
    (hdb : (x == ("__debug__" : Str)) = false := by decide) : JE X E (.Call (.Name x p) [] [] pos) (mMakeR C0 n G mNil) := by
  obtain ⟨f, fd, hm, M, hb, F⟩ := c
  refine PE.weak (pe_makeS0 M F hr hg hm hb (fun σ => passAt tk σ) hdb) fun σv H Qv q => ?_
  obtain ⟨P, S, σ, Q, Ex, W, r, m, nq, nx⟩ := q
  exact make_weak W RpL.nil m nq nx
end
-- what the top has written
section
variable {K : Frg} {h : Heap} {mg : Str → Option Value}
theorem dfnM_mk {C : Addr} {m qual : Str} {st : Stmt} {ps : List Str} {f : Addr} {oc : Value} {od an : Option Addr} {osl : Array (Option Value)} {kV doc pm cdv ct : Value} (cl : Cls K C) (a : PySem.W.findIn K (.ref C) m = some (some (.ref f))) (fn : PySem.W.isFn K (.ref f) = true)
    (l : K.lookup f = some ⟨oc, od, .func (PySem.W.fnOf m qual (defArgs st) (defBody st) (defScope st) .none kV doc pm an cdv ct), osl⟩) (c : PySem.W.codeIn K cdv qual = true) (k : PySem.W.keepIn K (.ref f) = true)
    (hb : ∀ (kV doc pm : Value) (an : Option Addr) (cdv ct : Value) (us : List Value), us.length = ps.length → bindArgs (PySem.W.fnOf m qual (defArgs st) (defBody st) (defScope st) .none kV doc pm an cdv ct) ⟨us, []⟩ = pure (ps.zip us)) : DfnM K C m qual st ps :=
  ⟨f, _, cl, ⟨a, fn, k⟩, fun_mk l c k, (fun_mk (st := st) l c k).binds hb⟩
theorem dfnI_mk {C : Addr} {x qual : Str} {st : Stmt} {ps : List Str} {f : Addr} {oc : Value} {od an : Option Addr} {osl : Array (Option Value)} {kV doc pm cdv ct : Value} (X : K.In h) (G : h.Ns mainGlobals mg) (ac : PySem.W.nsIn K mainGlobals x = some (some (.ref C))) (mk : PySem.W.makesIn K C = true) (kc : PySem.W.keepIn K (.ref C) = true)
    (a : PySem.W.findIn K (.ref C) "__init__" = some (some (.ref f))) (fn : PySem.W.isFn K (.ref f) = true)
    (l : K.lookup f = some ⟨oc, od, .func (PySem.W.fnOf "__init__" qual (defArgs st) (defBody st) (defScope st) .none kV doc pm an cdv ct), osl⟩) (c : PySem.W.codeIn K cdv qual = true) (k : PySem.W.keepIn K (.ref f) = true)
    (hb : ∀ (kV doc pm : Value) (an : Option Addr) (cdv ct : Value) (us : List Value), us.length = ps.length → bindArgs (PySem.W.fnOf "__init__" qual (defArgs st) (defBody st) (defScope st) .none kV doc pm an cdv ct) ⟨us, []⟩ = pure (ps.zip us)) : DfnI K mg x C qual st ps :=
  ⟨f, _, PySem.W.mg_of X G ac, ⟨mk, a, fn, kc⟩, fun_mk l c k, (fun_mk (st := st) l c k).binds hb⟩
end
end Dn

/-! enumerate and zip over lists, tuples and texts, in any mixture -/
namespace Dn
open PySem PySem.Spec PyProof.Rows L2
theorem meets_enum1 {v : Value} {o : Obj} {H : Heap → Prop} (B : Begins v o H) :
    Meets (Builtin.«enumerate.__new__» ⟨[.type "enumerate", v], []⟩) (fun _ R s => H s.heap ∧
      R (.ok (.ret (.ref (s.heap.push o).objs.size))) { s with heap := (s.heap.push o).push { cls := .type "enumerate", data := .fields #[.none, .bool false, .ref s.heap.objs.size, rawInt 0, .none, .none] } }) :=
  .of_wp fun prog w A R s h => by
    obtain ⟨hp, g, d, tk, os⟩ := s; obtain ⟨h1, h⟩ := h
    have hsub := sub_enumerate
    have q1 : ∀ {A' : Around} {E : Value → Shared → Prop} {Q : Value → Shared → Prop}, Q (.ref hp.objs.size) ⟨hp.push o, g, d, tk, os⟩ → wpAny (model prog w) A' (pyIter v) Q E ⟨hp, g, d, tk, os⟩ :=
      fun q => B.iter prog w _ _ ⟨hp, g, d, tk, os⟩ _ h1 q
    wp_walk using q1
    refine wpAny_stack_any fun st => wpAny_pure ?_
    split
    · rename_i c _ _ _ _ _
      cases (c == Value.type "enumerate")
      · wp_walk using q1
        exact ⟨_, rfl, h⟩
      · wp_walk using q1
        exact ⟨_, rfl, h⟩
    · wp_walk using q1
      exact ⟨_, rfl, h⟩
theorem enum1_begins {prog : Program} {w : World} {A : Around} {E : Value → Shared → Prop} {s : Shared} {v : Value} {o : Obj} {H : Heap → Prop} {Q : Value → Shared → Prop} (B : Begins v o H) (h1 : H s.heap)
    (h : ∀ h', IsEnum h' (s.heap.objs.size + 1) s.heap.objs.size 0 .none → h'.get? s.heap.objs.size = some o → h'.objs.size = s.heap.objs.size + 2 →
      (∀ b o, s.heap.get? b = some o → h'.get? b = some o) → Q (.ref (s.heap.objs.size + 1)) { s with heap := h' }) :
    wpAny (model prog w) A (call (.type "enumerate") [v]) Q E s := by
  refine callType_new F.called_enumerate (by decide) (F.typeCall_enumerate_1 _) (F.newCall_enumerate_1 _) (fun obj => F.args_object_init_2 obj _) F.entry_enumerate_new
    (meets_enum1 B) ⟨h1, ?_⟩
  have hz : (s.heap.push o).objs.size = s.heap.objs.size + 1 := Heap.size_push ..
  show _ ∧ _
  rw [hz]
  have he : IsEnum ((s.heap.push o).push { cls := .type "enumerate", data := .fields #[.none, .bool false, .ref s.heap.objs.size, rawInt 0, .none, .none] }) (s.heap.objs.size + 1) s.heap.objs.size 0 .none := by
    have := Heap.get?_push_size (s.heap.push o) (o := { cls := .type "enumerate", data := .fields #[.none, .bool false, .ref s.heap.objs.size, rawInt 0, .none, .none] }) rfl
    rw [hz] at this; exact this
  refine ⟨⟨_, he, rfl⟩, h _ he (Heap.get?_push_of_some _ (Heap.get?_push_size _ B.free)) (by rw [Heap.size_push, hz]) fun b o x => Heap.get?_push_of_some _ (Heap.get?_push_of_some _ x)⟩
/-- what is walked -/
inductive Src where
  | lst (a : Addr) | tup (a : Addr) | str (x : Str) (t : Tok)
namespace Src
def val : Src → Value
  | .lst a => .ref a
  | .tup a => .ref a
  | .str x t => .str x t
def At (K : Frg) (H : Hp) : Src → List V → Prop
  | .lst a, xs => SqL K H a xs
  | .tup a, xs => SqT K H a xs
  | .str x _, xs => xs = x.cps.toList.map fun c => V.str ⟨#[c]⟩
def tn (h : Heap) : Src → Addr → Nat → Prop
  | .lst a, it, i => h.IsListIter it a i ∧ a ≠ it
  | .tup a, it, i => h.IsTupleIter it a i ∧ a ≠ it
  | .str x t, it, i => h.IsStrIter it (strIterType x) x t i
def fp : Src → Addr → List Addr
  | .lst a, it => [it, a]
  | .tup a, it => [it, a]
  | .str _ _, it => [it]
def obj : Src → Obj
  | .lst a => { cls := .type "list_iterator", data := .fields #[.ref a, .int 0 0] }
  | .tup a => { cls := .type "tuple_iterator", data := .fields #[.ref a, .int 0 0] }
  | .str x t => { cls := .type (strIterType x), data := .fields #[.str x t, .int 0 0] }
theorem mem : ∀ {k : Src} {it : Addr}, it ∈ k.fp it
  | .lst _, _ => List.mem_cons_self
  | .tup _, _ => List.mem_cons_self
  | .str _ _, _ => List.mem_cons_self
/-- the one address beside the iterator's -/
def addr : Src → Option Addr
  | .lst a => some a
  | .tup a => some a
  | .str _ _ => none
theorem notIn {k : Src} {it e : Addr} (h1 : e ≠ it) (h2 : ∀ a, k.addr = some a → e ≠ a) : e ∉ k.fp it := by
  cases k <;> simp [fp, h1] <;> exact h2 _ rfl
theorem tn.at {h h' : Heap} {k : Src} {it : Addr} {i : Nat} (t : k.tn h it i) (e : ∀ o, h.get? it = some o → h'.get? it = some o) : k.tn h' it i := by
  cases k with
  | lst a => exact ⟨Heap.IsListIter.at t.1 e, t.2⟩
  | tup a => exact ⟨Heap.IsTupleIter.at t.1 e, t.2⟩
  | str x u =>
    obtain ⟨o, ho, hc, hd⟩ := (show h.IsStrIter it (strIterType x) x u i from t)
    exact ⟨o, e o ho, hc, hd⟩
theorem tn.live {h : Heap} {k : Src} {it : Addr} {i : Nat} (t : k.tn h it i) : ∃ o, h.get? it = some o ∧ ∀ v, o.data ≠ .cell v := by
  cases k with
  | lst a => obtain ⟨⟨o, e, _, d⟩, _⟩ := t; exact ⟨o, e, fun v q => by rw [d] at q; cases q⟩
  | tup a => obtain ⟨⟨o, e, _, d⟩, _⟩ := t; exact ⟨o, e, fun v q => by rw [d] at q; cases q⟩
  | str x u =>
    obtain ⟨o, e, _, d⟩ := (show h.IsStrIter it (strIterType x) x u i from t)
    exact ⟨o, e, fun v q => by rw [d] at q; cases q⟩
section
variable {X : Cx} {pins : List (Addr × Obj)} {σ : L2.St} {H : Hp} {s : Shared} {k : Src} {xs ys : List V}
theorem At.inj (I : L2.Inv X pins σ H s) (h1 : k.At X.K H xs) (h2 : k.At X.K H ys) : xs = ys := by
  cases k with
  | lst a => exact I.list_inj h1 h2
  | tup a => exact I.tuple_inj h1 h2
  | str x t => exact Eq.trans h1 (Eq.symm h2)
theorem vals_of {xs : List V} {its : List Value} (rv : Vals xs its) {j : Nat} {u : Value} (h : its.toArray[j]? = some u) : ∃ v, xs[j]? = some v ∧ RelV v u := by
  have h' : its[j]? = some u := by simpa using h
  have hl := (List.getElem?_eq_some_iff.mp h').1
  have hx : xs[j]? = some (xs[j]'(by rw [rv.length]; exact hl)) := List.getElem?_eq_getElem _
  obtain ⟨u', hu, ru⟩ := rv.get hx
  rw [h'] at hu
  cases hu
  exact ⟨_, hx, ru⟩
theorem draws (hc : X.calm = true) (I : L2.Inv X pins σ H s) (h : k.At X.K H xs) {it : Addr} {i : Nat} (ht : k.tn s.heap it i) :
    ∃ P St, Draws X.prog X.w X.A.in1 it (k.fp it) xs.length P St ∧ St i s.heap ∧ (∀ j h', St j h' → k.tn h' it j) ∧ ∀ j u, P j u → ∃ v, xs[j]? = some v ∧ RelV v u := by
  have hh : X.A.in1.handled = none := I.ok.hd hc
  cases k with
  | lst a =>
    obtain ⟨its, rv, p, _⟩ := I.list h
    have D := Draws.list (prog := X.prog) (w := X.w) hh it a ht.2 its.toArray
    rw [show its.toArray.size = xs.length by rw [rv.length]; simp] at D
    exact ⟨_, _, D, ⟨ht.1, p.isList⟩, fun j h' z => ⟨z.1, ht.2⟩, fun j u z => vals_of rv z⟩
  | tup a =>
    obtain ⟨its, rv, p, _⟩ := I.tuple h
    have D := Draws.tuple (prog := X.prog) (w := X.w) hh it a ht.2 its.toArray
    rw [show its.toArray.size = xs.length by rw [rv.length]; simp] at D
    exact ⟨_, _, D, ⟨ht.1, p⟩, fun j h' z => ⟨z.1, ht.2⟩, fun j u z => vals_of rv z⟩
  | str x t =>
    have e : xs = x.cps.toList.map fun c => V.str ⟨#[c]⟩ := h
    have D := Draws.text (prog := X.prog) (w := X.w) hh it x t
    rw [show x.cps.size = xs.length by rw [e]; simp] at D
    refine ⟨_, _, D, ht, fun j h' z => z, fun j u z => ?_⟩
    obtain ⟨c, t', ec, rfl⟩ := z
    exact ⟨.str ⟨#[c]⟩, by rw [e, List.getElem?_map, Array.getElem?_toList, ec]; rfl, ⟨t', rfl⟩⟩
theorem begins (I : L2.Inv X pins σ H s) (h : k.At X.K H xs) : ∃ F, Begins k.val k.obj F ∧ F s.heap := by
  cases k with
  | lst a => obtain ⟨its, _, p, _⟩ := I.list h; exact ⟨_, begins_list a its.toArray, p.isList⟩
  | tup a => obtain ⟨its, _, p, _⟩ := I.tuple h; exact ⟨_, begins_tuple a its.toArray, p⟩
  | str x t => exact ⟨_, begins_text x t, trivial⟩
theorem below (I : L2.Inv X pins σ H s) (h : k.At X.K H xs) {a : Addr} (ha : k.addr = some a) : a < s.heap.objs.size := by
  cases k with
  | lst b => rw [← Option.some.inj (show some b = some a from ha)]; obtain ⟨its, _, p, _⟩ := I.list h; obtain ⟨o, e, _⟩ := p.isList; exact Heap.lt_size e
  | tup b => rw [← Option.some.inj (show some b = some a from ha)]; obtain ⟨its, _, p, _⟩ := I.tuple h; obtain ⟨o, e, _⟩ := (show s.heap.IsTuple b its.toArray from p); exact Heap.lt_size e
  | str x t => cases ha
theorem tn0 {h : Heap} {it : Addr} (e : h.get? it = some k.obj) (ne : ∀ a, k.addr = some a → a ≠ it) : k.tn h it 0 := by
  cases k with
  | lst a => exact ⟨⟨_, e, rfl, rfl⟩, ne a rfl⟩
  | tup a => exact ⟨⟨_, e, rfl, rfl⟩, ne a rfl⟩
  | str x t => exact ⟨_, e, rfl, rfl⟩
end
end Src
/-! ### enumerate -/
def ItE (K : Frg) (k : Src) (n : Nat) : It :=
  ⟨fun i H => i < n ∧ ∃ xs : List V, k.At K H xs ∧ xs.length = n,
    fun i H v H' => ∃ T x, v = .ref T ∧ H T = none ∧ H' = upd H T (.tup [.int (i : Nat), x]) ∧ ∀ xs, k.At K H xs → xs[i]? = some x,
    fun i H => n ≤ i ∧ ∃ xs : List V, k.At K H xs ∧ xs.length = n⟩
theorem turn_enumK {P : Program} {w : World} {K : Frg} {elts : List Expr} {kk : Nat} {tpos : Pos} (k : Src) (n : Nat) (e it : Addr) (hef : e ∉ k.fp it) (hne : e ≠ it) :
    Turn P w K (.Tuple elts kk tpos) (ItE K k n) [e, it] e (fun i h => i ≤ n ∧ (∃ old, IsEnum h e it ((i : Nat) : Int) old) ∧ k.tn h it i) where
  mem := by simp
  obj := fun i h st b hb => by
    obtain ⟨_, ⟨old, he⟩, ht⟩ := st
    have e' : b = e ∨ b = it := by simpa using hb
    rcases e' with z | z
    · rw [z]; exact ⟨_, he, fun v q => nomatch q⟩
    · rw [z]; exact ht.live
  keep := fun i h h' st k' => let ⟨hi, ⟨old, he⟩, ht⟩ := st; ⟨hi, ⟨old, k' e (by simp) _ he⟩, ht.at fun o q => k' it (by simp) o q⟩
  item := by
    intro X hP hw hK hc i pins s σ H E I hf st hg
    subst hP hw hK
    obtain ⟨hin, ⟨old, he⟩, ht⟩ := st
    obtain ⟨hlt, xs, hat, hlen⟩ := hg
    obtain ⟨P, St, D, hst, hto, hP⟩ := Src.draws hc I hat ht
    have hel : e < s.heap.objs.size := Heap.lt_size he
    have hil : it < s.heap.objs.size := by obtain ⟨o, q, _⟩ := ht.live; exact Heap.lt_size q
    refine wpAny_pyNext_enum_itemC D he hst (by omega) hne hef fun u h' tk hPu ho hit' hT hsz hk => ?_
    obtain ⟨x, hx, ru⟩ := hP i u hPu
    refine ⟨_, rfl, wpAny_letOwnedTupleGo_enum (s := { s with heap := h', toks := tk + 1 }) ho fun h'' he' sb => ?_⟩
    have hT2 : h''.get? s.heap.objs.size = some { cls := .type "tuple", data := .seq #[.int i tk, u] } := (sb.2 _ (Nat.ne_of_gt hel)).trans hT
    have new : ObjOk X.prog X.w (upd H s.heap.objs.size (.tup [.int (i : Nat), x])) h'' s.heap.objs.size (.tup [.int (i : Nat), x]) :=
      ⟨by show 2 ≤ sizeLine; decide, [.int i tk, u], .cons ⟨_, rfl⟩ (.cons ru .nil), ⟨_, hT2, rfl, _, rfl⟩⟩
    have I1 : L2.Inv X pins σ (upd H s.heap.objs.size (.tup [.int (i : Nat), x])) { s with heap := h'', toks := tk + 1 } :=
      I.turnedNew (ch := [e, it]) (fun b ob hb q => (sb.2 b (fun z => hb (by simp [z]))).trans (hk b ob (fun z => hb (by simp [z])) (fun z => hb (by simp [z])) q)) hf (Nat.le_refl _) new
    refine ⟨.ref s.heap.objs.size, _, I1, rfl, ⟨_, x, rfl, I.hok.fresh (Nat.le_refl _), rfl, fun ys hy => by rw [Src.At.inj I hy hat]; exact hx⟩, ⟨hlt, ⟨u, ?_⟩, (hto _ _ hit').at fun o q => (sb.2 it (Ne.symm hne)).trans q⟩, fun b hb => ?_⟩
    · have e1 : ((i + 1 : Nat) : Int) = (i : Int) + 1 := by omega
      rw [e1]; exact he'
    · have hb' : b < s.heap.objs.size := by
        have e' : b = e ∨ b = it := by simpa using hb
        rcases e' with z | z
        · rw [z]; exact hel
        · rw [z]; exact hil
      rw [upd_ne (Nat.ne_of_lt hb')]
      exact (hf b hb).1
  done := by
    intro X hP hw hK hc i pins s σ H E I hf st hg
    subst hP hw hK
    obtain ⟨hin, ⟨old, he⟩, ht⟩ := st
    obtain ⟨hle, xs, hat, hlen⟩ := hg
    obtain ⟨P, St, D, hst, hto, hP⟩ := Src.draws hc I hat ht
    obtain ⟨f0, f1, f2, f3, f4, f5⟩ := hf it (by simp)
    have e1 : i = xs.length := by omega
    rw [e1] at hst he
    exact wpAny_pyNext_enum_endD D he hst fun h' eb => ⟨rfl, I.turned (t' := s.toks) (fun b o hb q => eb b o hb q) f0 f1 f3 f4 f5⟩
  self := fun A i s Q E st h => let ⟨_, ⟨_, he⟩, _⟩ := st; wpAny_pyIter_enum he h
/-! ### zip -/
def ItZ (K : Frg) (k1 k2 : Src) (n1 n2 : Nat) : It :=
  ⟨fun i H => i < n1 ∧ i < n2 ∧ ∃ xs ys : List V, k1.At K H xs ∧ k2.At K H ys ∧ xs.length = n1 ∧ ys.length = n2,
    fun i H v H' => ∃ T x y, v = .ref T ∧ H T = none ∧ H' = upd H T (.tup [x, y]) ∧ (∀ xs, k1.At K H xs → xs[i]? = some x) ∧ ∀ ys, k2.At K H ys → ys[i]? = some y,
    fun i H => (n1 ≤ i ∨ n2 ≤ i) ∧ ∃ xs ys : List V, k1.At K H xs ∧ k2.At K H ys ∧ xs.length = n1 ∧ ys.length = n2⟩
theorem turn_zipK {P : Program} {w : World} {K : Frg} {elts : List Expr} {kk : Nat} {tpos : Pos} (k1 k2 : Src) (n1 n2 : Nat) {z TI TO i1 i2 : Addr} (D : ZipSep2 z TI TO i1 i2 (k1.fp i1) (k2.fp i2)) :
    Turn P w K (.Tuple elts kk tpos) (ItZ K k1 k2 n1 n2) [z, TI, TO, i1, i2] z (fun i h => (i ≤ n1 ∧ i ≤ n2) ∧ IsZip h z TI TO .none ∧ IsTupOf2 h TI (.ref i1) (.ref i2) ∧ (∃ x y, IsTupOf2 h TO x y) ∧ k1.tn h i1 i ∧ k2.tn h i2 i) where
  mem := by simp
  obj := fun i h st c hc => by
    obtain ⟨_, hz, hTI, ⟨x, y, hTO⟩, h1, h2⟩ := st
    have e' : c = z ∨ c = TI ∨ c = TO ∨ c = i1 ∨ c = i2 := by simpa using hc
    rcases e' with q | q | q | q | q
    · rw [q]; exact ⟨_, hz, fun v q => nomatch q⟩
    · rw [q]; exact ⟨_, hTI, fun v q => nomatch q⟩
    · rw [q]; exact ⟨_, hTO, fun v q => nomatch q⟩
    · rw [q]; exact h1.live
    · rw [q]; exact h2.live
  keep := fun i h h' st k => by
    obtain ⟨hi, hz, hTI, ⟨x, y, hTO⟩, h1, h2⟩ := st
    exact ⟨hi, k z (by simp) _ hz, k TI (by simp) _ hTI, ⟨x, y, k TO (by simp) _ hTO⟩, h1.at fun o q => k i1 (by simp) o q, h2.at fun o q => k i2 (by simp) o q⟩
  item := by
    intro X hP hw hK hc i pins s σ H E I hf st hg
    subst hP hw hK
    obtain ⟨hin, hz, hTI, ⟨x0, y0, hTO⟩, h1, h2⟩ := st
    obtain ⟨l1, l2, xs, ys, hqx, hqy, lx, ly⟩ := hg
    obtain ⟨P1, St1, D1, st1, to1, hP1⟩ := Src.draws hc I hqx h1
    obtain ⟨P2, St2, D2, st2, to2, hP2⟩ := Src.draws hc I hqy h2
    have hzl : z < s.heap.objs.size := Heap.lt_size hz
    refine wpAny_pyNext_zipD2_item D D1 D2 hz hTI hTO st1 st2 (by omega) (by omega) fun u u2 h' tk p1 p2 z' TO' d1 d2 hT hsz hk => ?_
    obtain ⟨x, hx, ru⟩ := hP1 i u p1
    obtain ⟨y, hy, ru2⟩ := hP2 i u2 p2
    refine ⟨_, rfl, wpAny_letOwnedTupleGo_zip (s := { s with heap := h', toks := tk }) z' fun h'' z'' sb => ?_⟩
    have hT2 : h''.get? s.heap.objs.size = some { cls := .type "tuple", data := .seq #[u, u2] } := (sb.2 _ (Nat.ne_of_gt hzl)).trans hT
    have new : ObjOk X.prog X.w (upd H s.heap.objs.size (.tup [x, y])) h'' s.heap.objs.size (.tup [x, y]) :=
      ⟨by show 2 ≤ sizeLine; decide, [u, u2], .cons ru (.cons ru2 .nil), ⟨_, hT2, rfl, _, rfl⟩⟩
    have I1 : L2.Inv X pins σ (upd H s.heap.objs.size (.tup [x, y])) { s with heap := h'', toks := tk } :=
      I.turnedNew (t' := tk) (ch := [z, TI, TO, i1, i2]) (fun c o hb q => (sb.2 c (fun q' => hb (by simp [q']))).trans (hk c o (fun q' => hb (by simp [q'])) (fun q' => hb (by simp [q'])) (fun q' => hb (by simp [q'])) (fun q' => hb (by simp [q'])) q)) hf (Nat.le_refl _) new
    refine ⟨.ref s.heap.objs.size, _, I1, rfl, ⟨_, x, y, rfl, I.hok.fresh (Nat.le_refl _), rfl, fun l hl => by rw [Src.At.inj I hl hqx]; exact hx, fun l hl => by rw [Src.At.inj I hl hqy]; exact hy⟩, ⟨⟨l1, l2⟩, z'', ?_, ⟨u, u2, ?_⟩, ?_, ?_⟩, fun c hcm => ?_⟩
    · exact (sb.2 _ D.TIz).trans (hk _ _ D.TIz D.TITO D.TIi1 D.TIi2 hTI)
    · exact (sb.2 _ D.TOz).trans TO'
    · exact (to1 _ _ d1).at fun o q => (sb.2 _ (Ne.symm D.zi1)).trans q
    · exact (to2 _ _ d2).at fun o q => (sb.2 _ (Ne.symm D.zi2)).trans q
    · have hlt : c < s.heap.objs.size := by
        have e' : c = z ∨ c = TI ∨ c = TO ∨ c = i1 ∨ c = i2 := by simpa using hcm
        rcases e' with q | q | q | q | q
        · rw [q]; exact hzl
        · rw [q]; exact Heap.lt_size hTI
        · rw [q]; exact Heap.lt_size hTO
        · rw [q]; obtain ⟨_, e1, _⟩ := h1.live; exact Heap.lt_size e1
        · rw [q]; obtain ⟨_, e2, _⟩ := h2.live; exact Heap.lt_size e2
      rw [upd_ne (Nat.ne_of_lt hlt)]
      exact (hf c hcm).1
  done := by
    intro X hP hw hK hc i pins s σ H E I hf st hg
    subst hP hw hK
    obtain ⟨hin, hz, hTI, ⟨x0, y0, hTO⟩, h1, h2⟩ := st
    obtain ⟨hend, xs, ys, hqx, hqy, lx, ly⟩ := hg
    obtain ⟨P1, St1, D1, st1, to1, hP1⟩ := Src.draws hc I hqx h1
    obtain ⟨P2, St2, D2, st2, to2, hP2⟩ := Src.draws hc I hqy h2
    exact wpAny_pyNext_zipD2_end D D1 D2 hz hTI hTO st1 st2 (by omega) (by omega) (by omega) fun h' tk hk => ⟨rfl, I.turnedL (t' := tk) (ch := [z, TI, TO, i1, i2]) (fun c o hb q =>
      hk c o (fun q' => hb (by simp [q'])) (fun q' => hb (by simp [q'])) (fun q' => hb (by simp [q'])) (fun q' => hb (by simp [q'])) q) hf⟩
  self := fun A i s Q E st h => wpAny_pyIter_zip st.2.1 h
/-! ### the readings -/
def enumW : Nat → List Dt → List Dt
  | _, [] => []
  | n, w :: ws => .tup [.int (n : Int), w] :: enumW (n + 1) ws
theorem enumW_len : ∀ (n : Nat) (ws : List Dt), (enumW n ws).length = ws.length
  | _, [] => rfl
  | n, w :: ws => by rw [enumW, List.length_cons, List.length_cons, enumW_len]
theorem enumW_get : ∀ {n : Nat} {ws : List Dt} {i : Nat} {w : Dt}, (enumW n ws)[i]? = some w → ∃ u, ws[i]? = some u ∧ w = .tup [.int ((n + i : Nat) : Int), u]
  | _, [], i, w, h => by simp [enumW] at h
  | n, u :: ws, 0, w, h => by
    simp [enumW] at h
    exact ⟨u, rfl, by rw [← h]; rfl⟩
  | n, u :: ws, i + 1, w, h => by
    rw [enumW, List.getElem?_cons_succ] at h
    obtain ⟨z, e, rfl⟩ := enumW_get h
    exact ⟨z, by simpa using e, by congr 4; omega⟩
section
variable {X : Cx} {E : WX}
/-- a datum that is walked -/
theorem src_of {K : Frg} {P : Hid} {S1 : Store} {H1 : Hp} {w : Dt} {v : V} {u : Value} {Q : List Dt → (Store → Prop) → Store → Prop} (W1 : Wd K P S1 H1) (r : Rp K P S1 H1 w v) (ru : RelV v u) (h : seqQ Q w S1) :
    ∃ (k : Src) (ws : List Dt) (gd : Store → Prop), u = k.val ∧ (∃ xs, k.At K H1 xs) ∧ (∀ (P' : Hid) (S2 : Store) (H2 : Hp), (∀ b, P' b → P b ∨ H1 b = none) → Wd K P' S2 H2 → Evo S1 H1 S2 H2 → gd S2 → ∃ xs, k.At K H2 xs ∧ RpL K P' S2 H2 ws xs) ∧ Q ws gd S1 := by
  unfold seqQ at h
  split at h
  · rename_i a
    rw [rp_ref] at r
    subst r
    cases ru
    split at h
    · rename_i ws e
      obtain ⟨xs, e2, rl⟩ := W1.sim a _ e
      refine ⟨.lst a, ws, _, rfl, ⟨xs, SqL.of e2⟩, fun P' S2 H2 hp W2 ev g => ?_, h⟩
      obtain ⟨ys, e3, rl3⟩ := W2.sim a _ g
      exact ⟨ys, SqL.of e3, rl3⟩
    · exact h.elim
  · rename_i ws
    unfold Rp at r
    obtain ⟨a, xs, rfl, f, rl⟩ := r
    cases ru
    exact ⟨.lst a, ws, _, rfl, ⟨xs, f.sqL⟩, fun P' S2 H2 hp W2 ev g => ⟨xs, SqL.of (ev a _ f.2.1 f.1).1, rpl_live hp ev rl⟩, h⟩
  · rename_i ws
    unfold Rp at r
    obtain ⟨a, xs, rfl, f, rl⟩ := r
    cases ru
    refine ⟨.lst a, ws, _, rfl, ⟨xs, sqK_of f⟩, fun P' S2 H2 hp W2 ev g => ⟨xs, ?_, rpl_live hp ev rl⟩, h⟩
    rcases f with ⟨o, f⟩ | f
    · exact .inl (.inr ⟨o, (ev a _ f.2.1 f.1).1⟩)
    · exact f.sq
  · rename_i ws
    unfold Rp at r
    obtain ⟨a, xs, rfl, f, rl⟩ := r
    cases ru
    exact ⟨.tup a, ws, _, rfl, ⟨xs, sqT_of (.inl f)⟩, fun P' S2 H2 hp W2 ev g => ⟨xs, SqT.of (ev a _ f.2.1 f.1).1, rpl_live hp ev rl⟩, h⟩
  · rename_i ws
    unfold Rp at r
    obtain ⟨a, xs, rfl, f, rl⟩ := r
    cases ru
    exact ⟨.tup a, ws, _, rfl, ⟨xs, f.sq⟩, fun P' S2 H2 hp W2 ev g => ⟨xs, f.sq, rpl_live hp ev rl⟩, h⟩
  · rename_i x
    rw [rp_str] at r
    subst r
    obtain ⟨t, rfl⟩ := ru
    refine ⟨.str x t, signsW x, _, rfl, ⟨_, rfl⟩, fun P' S2 H2 hp W2 ev g => ⟨_, rfl, ?_⟩, h⟩
    unfold signsW
    generalize x.cps.toList = l
    induction l with
    | nil => exact RpL.nil
    | cons c l ih => exact RpL.cons rpStr ih
  · exact h.elim
def mEnum (ma : MA) : MI := fun σ S Q Ex => ma σ S (fun vs S1 => match vs with
  | [w] => seqQ (fun ws gd S2 => Q (enumW 0 ws) gd S2) w S1
  | _ => False) Ex
theorem ji_enum {e : Expr} {ma : MA} {p pos tpos : Pos} {elts : List Expr} {kk : Nat} (hg : Gl X "enumerate") (hm : X.mg "enumerate" = none) (ha : JA X E [e] ma) (hs : starEach [e] X.env = [(false, eval e X.env)] := by rfl) :
    JI X E (.Tuple elts kk tpos) (.Call (.Name "enumerate" p) [e] [] pos) (mEnum ma) := by
  refine ⟨fun pins s σv H R I q => ?_⟩
  obtain ⟨P, S, σ, Q, Ex, W, r, m, nj, nx⟩ := q
  refine Call_ (ld_blt I hg hm boot_enumerate (PyProof.Rows.callWith_type1 (thn (ha.run pos pins s σv H (fun vs H' => ∃ ws S', Wd X.K P S' H' ∧ RpL X.K P S' H' ws vs ∧ Evo S H S' H' ∧ (match ws with | [w] => seqQ (fun ws gd S2 => Q (enumW 0 ws) gd S2) w S' | _ => False)) I
    ⟨P, S, σ, _, Ex, W, r, m, fun vs H' ws S' W' rl e' q' => ⟨ws, S', W', rl, e', q'⟩, nx⟩) fun us s1 ⟨vs, H1, I1, r1, ws, S1, W1, rl, e1, m1⟩ => ?_) hs rfl))
  split at m1
  · rename_i w
    obtain ⟨v, rfl, rv⟩ := rl.one
    cases r1 with
    | cons ru rr =>
      cases rr
      obtain ⟨k, us, gd, rfl, ⟨xs, hat⟩, live, m1⟩ := src_of W1 rv ru m1
      obtain ⟨F, B, hF⟩ := Src.begins I1 hat
      refine enum1_begins B hF fun h' he hit hsz hk => wpAny_pyIter_enum he ?_
      have I2 : L2.Inv X pins σv H1 { s1 with heap := h' } := I1.kept (t' := s1.toks) hk
      have nea : ∀ a, k.addr = some a → a < s1.heap.objs.size := fun a ha => Src.below I1 hat ha
      have hef : s1.heap.objs.size + 1 ∉ k.fp s1.heap.objs.size := Src.notIn (Nat.ne_of_gt (by omega)) fun a ha => Nat.ne_of_gt (Nat.lt_succ_of_lt (nea a ha))
      refine ⟨s1.heap.objs.size + 1, [s1.heap.objs.size + 1, s1.heap.objs.size], _, _, H1, rfl, I2, turn_enumK k us.length (s1.heap.objs.size + 1) s1.heap.objs.size hef (Nat.ne_of_gt (by omega)), ⟨Nat.zero_le _, ⟨.none, he⟩, Src.tn0 hit fun a ha => Nat.ne_of_lt (nea a ha)⟩, fun b hb => ?_, nj _ H1 _ gd S1 W1 e1 ?_ m1⟩
      · have e' : b = s1.heap.objs.size + 1 ∨ b = s1.heap.objs.size := by simpa using hb
        have hle : s1.heap.objs.size ≤ b := by
          rcases e' with q | q
          · rw [q]; exact Nat.le_succ _
          · rw [q]; exact Nat.le_refl _
        exact I1.fpOk hle (I1.hok.fresh hle)
      · intro P' S2 H2 i hp W2 e2 hgd
        obtain ⟨ys, hy, rly⟩ := live P' S2 H2 hp W2 e2 hgd
        refine ⟨fun w ew => ?_, fun hi => ⟨by rw [enumW_len] at hi; exact hi, ys, hy, rly.length.symm⟩⟩
        obtain ⟨z, ez, rfl⟩ := enumW_get ew
        obtain ⟨x, ex, rx⟩ := rly.get ez
        refine ⟨⟨(List.getElem?_eq_some_iff.mp ez).1, ys, hy, rly.length.symm⟩, fun y H' hyl => ?_⟩
        obtain ⟨T, x', rfl, hT, rfl, hx'⟩ := hyl
        have q1 := (hx' ys hy).symm.trans ex
        cases q1
        refine ⟨W2.new hT, Evo.new hT, ?_⟩
        unfold Rp
        refine ⟨T, _, rfl, Fz.new W2 hT, RpL.cons ?_ (RpL.cons (rx.mono (Evo.new hT)) RpL.nil)⟩
        rw [rp_int]
        congr 1
        omega
  · exact m1.elim
def mZipK (ma : MA) : MI := fun σ S Q Ex => ma σ S (fun vs S1 => match vs with
  | [w, z] => seqQ (fun ws gd1 S2 => seqQ (fun zs gd2 S3 => Q (zipW ws zs) (fun S' => gd1 S' ∧ gd2 S') S3) z S2) w S1
  | _ => False) Ex
theorem ji_zipK {e e2 : Expr} {ma : MA} {p pos tpos : Pos} {elts : List Expr} {kk : Nat} (hg : Gl X "zip") (hm : X.mg "zip" = none) (ha : JA X E [e, e2] ma)
    (hs : starEach [e, e2] X.env = (false, eval e X.env) :: starEach [e2] X.env := by rfl) (hpl : (backTo pos (starEach [e2] X.env)).any (·.1) = false := by rfl) :
    JI X E (.Tuple elts kk tpos) (.Call (.Name "zip" p) [e, e2] [] pos) (mZipK ma) := by
  refine ⟨fun pins s σv H R I q => ?_⟩
  obtain ⟨P, S, σ, Q, Ex, W, r, m, nj, nx⟩ := q
  refine Call_ (ld_blt I hg hm PyProof.Rows.boot_zip (PyProof.Rows.callWith_type1 (thn (ha.run pos pins s σv H (fun vs H' => ∃ ws S', Wd X.K P S' H' ∧ RpL X.K P S' H' ws vs ∧ Evo S H S' H' ∧ (match ws with | [w, z] => seqQ (fun ws gd1 S2 => seqQ (fun zs gd2 S3 => Q (zipW ws zs) (fun S' => gd1 S' ∧ gd2 S') S3) z S2) w S' | _ => False)) I
    ⟨P, S, σ, _, Ex, W, r, m, fun vs H' ws S' W' rl e' q' => ⟨ws, S', W', rl, e', q'⟩, nx⟩) fun us s1 ⟨vs, H1, I1, r1, ws, S1, W1, rl, e1, m1⟩ => ?_) hs hpl))
  split at m1
  · rename_i w z
    obtain ⟨v, v2, rfl, rv, rv2⟩ := rl.two
    cases r1 with
    | cons ru rr =>
      cases rr with
      | cons ru2 rr =>
      cases rr
      obtain ⟨k1, us, gd1, rfl, ⟨xs, hat1⟩, live1, m1⟩ := src_of W1 rv ru m1
      obtain ⟨k2, zs, gd2, rfl, ⟨ys, hat2⟩, live2, m1⟩ := src_of W1 rv2 ru2 m1
      obtain ⟨F1, B1, hF1⟩ := Src.begins I1 hat1
      obtain ⟨F2, B2, hF2⟩ := Src.begins I1 hat2
      refine zip_begins2 B1 B2 hF1 hF2 fun h' hz hTI hTO h1 h2 hsz hk => wpAny_pyIter_zip hz ?_
      have I2 : L2.Inv X pins σv H1 { s1 with heap := h' } := I1.kept (t' := s1.toks) hk
      have nea : ∀ a, k1.addr = some a → a < s1.heap.objs.size := fun a ha => Src.below I1 hat1 ha
      have neb : ∀ a, k2.addr = some a → a < s1.heap.objs.size := fun a ha => Src.below I1 hat2 ha
      have n1 : ∀ c, s1.heap.objs.size ≤ c → c ≠ s1.heap.objs.size → c ∉ k1.fp s1.heap.objs.size := fun c hc h => Src.notIn h fun a ha => Nat.ne_of_gt (Nat.lt_of_lt_of_le (nea a ha) hc)
      have n2 : ∀ c, s1.heap.objs.size ≤ c → c ≠ s1.heap.objs.size + 1 → c ∉ k2.fp (s1.heap.objs.size + 1) := fun c hc h => Src.notIn h fun a ha => Nat.ne_of_gt (Nat.lt_of_lt_of_le (neb a ha) hc)
      have D : ZipSep2 (s1.heap.objs.size + 4) (s1.heap.objs.size + 2) (s1.heap.objs.size + 3) s1.heap.objs.size (s1.heap.objs.size + 1) (k1.fp s1.heap.objs.size) (k2.fp (s1.heap.objs.size + 1)) :=
        ⟨Nat.ne_of_lt (by omega), Nat.ne_of_lt (by omega), Nat.ne_of_lt (by omega), Nat.ne_of_gt (by omega), Src.mem, n1 _ (by omega) (by omega), n1 _ (by omega) (by omega), Nat.ne_of_gt (by omega), Src.mem, n2 _ (by omega) (by omega), n2 _ (by omega) (by omega), n2 _ (by omega) (by omega), n1 _ (by omega) (by omega)⟩
      refine ⟨s1.heap.objs.size + 4, [s1.heap.objs.size + 4, s1.heap.objs.size + 2, s1.heap.objs.size + 3, s1.heap.objs.size, s1.heap.objs.size + 1], _, _, H1, rfl, I2, turn_zipK k1 k2 us.length zs.length D,
        ⟨⟨Nat.zero_le _, Nat.zero_le _⟩, hz, hTI, ⟨_, _, hTO⟩, Src.tn0 h1 fun a ha => Nat.ne_of_lt (nea a ha), Src.tn0 h2 fun a ha => Nat.ne_of_lt (Nat.lt_succ_of_lt (neb a ha))⟩, fun c hcm => ?_, nj _ H1 _ _ S1 W1 e1 ?_ m1⟩
      · have e' : c = s1.heap.objs.size + 4 ∨ c = s1.heap.objs.size + 2 ∨ c = s1.heap.objs.size + 3 ∨ c = s1.heap.objs.size ∨ c = s1.heap.objs.size + 1 := by simpa using hcm
        have hle : s1.heap.objs.size ≤ c := by
          rcases e' with q | q | q | q | q <;> rw [q]
          · exact Nat.le_add_right _ _
          · exact Nat.le_add_right _ _
          · exact Nat.le_add_right _ _
          · exact Nat.le_refl _
          · exact Nat.le_add_right _ _
        exact I1.fpOk hle (I1.hok.fresh hle)
      · intro P' S2 H2 i hp W2 e2 hgd
        obtain ⟨xs', hx, rlx⟩ := live1 P' S2 H2 hp W2 e2 hgd.1
        obtain ⟨ys', hy, rly⟩ := live2 P' S2 H2 hp W2 e2 hgd.2
        refine ⟨fun w ew => ?_, fun hi => ⟨by rw [zipW_len] at hi; omega, xs', ys', hx, hy, rlx.length.symm, rly.length.symm⟩⟩
        obtain ⟨wa, wb, ea, eb, rfl⟩ := zipW_get ew
        obtain ⟨x, ex, rx⟩ := rlx.get ea
        obtain ⟨y, ey, ry⟩ := rly.get eb
        refine ⟨⟨(List.getElem?_eq_some_iff.mp ea).1, (List.getElem?_eq_some_iff.mp eb).1, xs', ys', hx, hy, rlx.length.symm, rly.length.symm⟩, fun z H' hzl => ?_⟩
        obtain ⟨T, x', y', rfl, nT, rfl, hx', hy'⟩ := hzl
        have q1 := (hx' xs' hx).symm.trans ex
        have q2 := (hy' ys' hy).symm.trans ey
        cases q1
        cases q2
        refine ⟨W2.new nT, Evo.new nT, ?_⟩
        unfold Rp
        exact ⟨T, _, rfl, Fz.new W2 nT, RpL.cons (rx.mono (Evo.new nT)) (RpL.cons (ry.mono (Evo.new nT)) RpL.nil)⟩
  · exact m1.elim
end
end Dn

/-! in; dicts; sorted; targets of comprehensions that are patterns; new lists by +, slices; methods of texts -/
namespace Dn
open PySem PySem.Spec PyProof.Rows L2
/-! ### keys, what a dict holds -/
def keyW : Dt → Option Key
  | .int i => some (.inl i)
  | .str x => some (.inr x)
  | _ => none
def keysW : List Dt → Option (List Key)
  | [] => some []
  | w :: ws => match keyW w, keysW ws with
    | some k, some ks => some (k :: ks)
    | _, _ => none
def tkeyW : Dt → Option (List Key)
  | .tup us => keysW us
  | _ => none
def lkW {κ : Type} [DecidableEq κ] : List κ → List Dt → κ → Option Dt
  | k :: ks, w :: ws, x => if k = x then some w else lkW ks ws x
  | _, _, _ => none
def OptRp (K : Frg) (P : Hid) (S : Store) (H : Hp) (o : Option Dt) (r : Option V) : Prop := match o with
  | none => r = none
  | some u => ∃ v, r = some v ∧ Rp K P S H u v
section
variable {K : Frg} {P : Hid} {S : Store} {H : Hp}
theorem keyW_V {w : Dt} {v : V} {k : Key} (r : Rp K P S H w v) (h : keyW w = some k) : v = kV k := by
  cases w with
  | int i => cases h; exact rp_int.mp r
  | str i => cases h; exact rp_str.mp r
  | _ => cases h
theorem keysW_V : ∀ {ws : List Dt} {xs : List V} {ks : List Key}, RpL K P S H ws xs → keysW ws = some ks → xs = ks.map kV
  | [], xs, ks, r, h => by
    cases h
    exact r.nilE
  | w :: ws, xs, ks, r, h => by
    obtain ⟨v, t, rfl, r1, r2⟩ := r.consE
    unfold keysW at h
    split at h
    · rename_i k ks' e1 e2
      cases h
      rw [keyW_V r1 e1, keysW_V r2 e2]
      rfl
    · cases h
theorem lkW_val {κ : Type} [DecidableEq κ] : ∀ {ks : List κ} {ws : List Dt} {xs : List V} (x : κ), RpL K P S H ws xs → ks.length = ws.length → OptRp K P S H (lkW ks ws x) (valV (ks.zip xs) x)
  | [], [], xs, x, r, hl => by
    rw [r.nilE]
    rfl
  | k :: ks, w :: ws, xs, x, r, hl => by
    obtain ⟨v, t, rfl, r1, r2⟩ := r.consE
    unfold lkW
    by_cases h : k = x
    · rw [if_pos h]
      exact ⟨v, valV_pos (p := (k, v)) h, r1⟩
    · rw [if_neg h]
      have ih := lkW_val x r2 (by simpa using hl)
      rw [show (k :: ks).zip (v :: t) = (k, v) :: ks.zip t from rfl, valV_neg (p := (k, v)) h]
      exact ih
  | [], _ :: _, _, _, _, hl => by simp at hl
  | _ :: _, [], _, _, _, hl => by simp at hl
end
/-- what d[w] is: not to be told; not there; there -/
def dlook (S : Store) (d w : Dt) : Option (Option Dt) := match d with
  | .dK ks ws => (keyW w).map (lkW ks ws)
  | .dT ks ws => (tkeyW w).map (lkW ks ws)
  | .ref a => match S a with
    | some (.dK ks ws) => (keyW w).map (lkW ks ws)
    | some (.dT ks ws) => (tkeyW w).map (lkW ks ws)
    | _ => none
  | _ => none
section
variable {K : Frg} {P : Hid} {S : Store} {H : Hp}
theorem dlookK {a : Addr} {ks : List Key} {ws : List Dt} {xs : List V} {w : Dt} {y : V} {o : Option Dt} (e : H a = some (.dK (ks.zip xs))) (hl : ks.length = ws.length) (rl : RpL K P S H ws xs) (ry : Rp K P S H w y) (h : (keyW w).map (lkW ks ws) = some o) :
    ∃ r, DGet H a y r ∧ OptRp K P S H o r := by
  cases ek : keyW w with
  | none => rw [ek] at h; cases h
  | some k =>
    rw [ek] at h
    cases h
    have := keyW_V ry ek
    subst this
    exact ⟨_, DGet.k e, lkW_val k rl hl⟩
theorem dlookT {a : Addr} {ks : List (List Key)} {ws : List Dt} {xs : List V} {w : Dt} {y : V} {o : Option Dt} (e : H a = some (.dT (ks.zip xs))) (hl : ks.length = ws.length) (rl : RpL K P S H ws xs) (ry : Rp K P S H w y) (h : (tkeyW w).map (lkW ks ws) = some o) :
    ∃ r, DGet H a y r ∧ OptRp K P S H o r := by
  cases ek : tkeyW w with
  | none => rw [ek] at h; cases h
  | some k =>
    rw [ek] at h
    cases h
    cases w with
    | tup us =>
      unfold Rp at ry
      obtain ⟨b, zs, rfl, fz, rz⟩ := ry
      have ez := keysW_V rz ek
      subst ez
      exact ⟨_, DGet.t e fz.1, lkW_val k rl hl⟩
    | _ => cases ek
theorem dlook_of (W : Wd K P S H) {d w : Dt} {x y : V} {o : Option Dt} (rd : Rp K P S H d x) (ry : Rp K P S H w y) (h : dlook S d w = some o) :
    ∃ a r, x = .ref a ∧ DGet H a y r ∧ OptRp K P S H o r := by
  unfold dlook at h
  split at h
  · unfold Rp at rd
    obtain ⟨a, xs, rfl, fz, hl, rl⟩ := rd
    obtain ⟨r, q⟩ := dlookK fz.1 hl rl ry h
    exact ⟨a, r, rfl, q⟩
  · unfold Rp at rd
    obtain ⟨a, xs, rfl, fz, hl, rl⟩ := rd
    obtain ⟨r, q⟩ := dlookT fz.1 hl rl ry h
    exact ⟨a, r, rfl, q⟩
  · rename_i a
    rw [rp_ref] at rd
    subst rd
    split at h
    · rename_i ks ws ea
      obtain ⟨xs, e, hl, rl⟩ := W.sim a _ ea
      obtain ⟨r, q⟩ := dlookK e hl rl ry h
      exact ⟨a, r, rfl, q⟩
    · rename_i ks ws ea
      obtain ⟨xs, e, hl, rl⟩ := W.sim a _ ea
      obtain ⟨r, q⟩ := dlookT e hl rl ry h
      exact ⟨a, r, rfl, q⟩
    · cases h
  · cases h
/-! ### flat data -/
def flatD : Dt → Bool
  | .non | .bl _ | .int _ | .str _ => true
  | _ => false
theorem flat_rp {w : Dt} {v : V} (h : flatD w = true) (r : Rp K P S H w v) : flatV v = true := by
  cases w with
  | non => rw [rp_non] at r; subst r; rfl
  | bl b => rw [rp_bl] at r; subst r; rfl
  | int b => rw [rp_int] at r; subst r; rfl
  | str b => rw [rp_str] at r; subst r; rfl
  | _ => cases h
theorem flat_eq {w z : Dt} {v u : V} (hw : flatD w = true) (hz : flatD z = true) (r : Rp K P S H w v) (r2 : Rp K P S H z u) : eqV v u = eqD w z := by
  cases w with
  | non => rw [rp_non] at r; subst r; cases z with
    | non => rw [rp_non] at r2; subst r2; rfl
    | bl b => rw [rp_bl] at r2; subst r2; rfl
    | int b => rw [rp_int] at r2; subst r2; rfl
    | str b => rw [rp_str] at r2; subst r2; rfl
    | _ => cases hz
  | bl a => rw [rp_bl] at r; subst r; cases z with
    | non => rw [rp_non] at r2; subst r2; rfl
    | bl b => rw [rp_bl] at r2; subst r2; rfl
    | int b => rw [rp_int] at r2; subst r2; unfold eqD eqV; by_cases h : (if a then (1 : Int) else 0) = b <;> simp [h]
    | str b => rw [rp_str] at r2; subst r2; rfl
    | _ => cases hz
  | int a => rw [rp_int] at r; subst r; cases z with
    | non => rw [rp_non] at r2; subst r2; rfl
    | bl b => rw [rp_bl] at r2; subst r2; unfold eqD eqV; by_cases h : a = (if b then (1 : Int) else 0) <;> simp [h]
    | int b => rw [rp_int] at r2; subst r2; unfold eqD eqV; by_cases h : a = b <;> simp [h]
    | str b => rw [rp_str] at r2; subst r2; rfl
    | _ => cases hz
  | str a => rw [rp_str] at r; subst r; cases z with
    | non => rw [rp_non] at r2; subst r2; rfl
    | bl b => rw [rp_bl] at r2; subst r2; rfl
    | int b => rw [rp_int] at r2; subst r2; rfl
    | str b => rw [rp_str] at r2; subst r2; unfold eqD eqV; by_cases h : a = b <;> simp [h]
    | _ => cases hz
  | _ => cases hw
def memW (w : Dt) (ws : List Dt) : Bool := ws.any fun y => eqD y w
theorem flat_all : ∀ {ws : List Dt} {xs : List V}, ws.all flatD = true → RpL K P S H ws xs → xs.all flatV = true
  | [], xs, _, r => by rw [r.nilE]; rfl
  | w :: ws, xs, h, r => by
    obtain ⟨v, t, rfl, r1, r2⟩ := r.consE
    rw [List.all_cons, Bool.and_eq_true] at h ⊢
    exact ⟨flat_rp h.1 r1, flat_all h.2 r2⟩
theorem flat_in {w : Dt} {v : V} (hw : flatD w = true) (r : Rp K P S H w v) : ∀ {ws : List Dt} {xs : List V}, ws.all flatD = true → RpL K P S H ws xs → inV v xs = memW w ws
  | [], xs, _, rl => by rw [rl.nilE]; rfl
  | z :: ws, xs, h, rl => by
    obtain ⟨u, t, rfl, r1, r2⟩ := rl.consE
    rw [List.all_cons, Bool.and_eq_true] at h
    have ih := flat_in hw r h.2 r2
    unfold inV memW at ih ⊢
    rw [List.any_cons, List.any_cons, flat_eq h.1 hw r1 r, ih]
end
/-! ### in, not in -/
/-- in a list or tuple -/
def inSeqW (neg : Bool) (w : Dt) (ws : List Dt) (S : Store) (Q : Dt → Store → Prop) : Prop := (flatD w = true ∧ ws.all flatD = true) ∧ Q (.bl (if neg then !memW w ws else memW w ws)) S
def pyIn (neg : Bool) : Op2
  | w, .tup ws, S, Q => inSeqW neg w ws S Q
  | w, .kt ws, S, Q => inSeqW neg w ws S Q
  | w, .lst ws, S, Q => inSeqW neg w ws S Q
  | w, .str z, S, Q => match w with
    | .str x => ∃ c, x = ⟨#[c]⟩ ∧ Q (.bl (if neg then !decide (c ∈ z.cps.toList) else decide (c ∈ z.cps.toList))) S
    | _ => False
  | w, z, S, Q => match dlook S z w with
    | some o => Q (.bl (if neg then !o.isSome else o.isSome)) S
    | none => match lsv S z with
      | some ws => inSeqW neg w ws S Q
      | none => False
section
variable {X : Cx} {E : WX}
theorem in_seq {K : Frg} {P : Hid} {S : Store} {H : Hp} {neg : Bool} {w : Dt} {ws : List Dt} {x y : V} {Q : Dt → Store → Prop} {Qv : VK} (W : Wd K P S H) (r : Rp K P S H w x) {p : Addr} {xs : List V} (ey : y = .ref p) (hq : SqL K H p xs ∨ SqT K H p xs) (rl : RpL K P S H ws xs) (g : inSeqW neg w ws S Q) (nq : NQ K P S H Q Qv) : rIn K neg x y H Qv := by
  obtain ⟨⟨g1, g2⟩, g3⟩ := g
  refine ⟨p, xs, ey, hq, flat_rp g1 r, flat_all g2 rl, ?_⟩
  rw [flat_in g1 r g2 rl]
  exact nq.now W rpBl g3
theorem dget_isSome {K : Frg} {P : Hid} {S : Store} {H : Hp} {o : Option Dt} {r : Option V} (h : OptRp K P S H o r) : r.isSome = o.isSome := by
  cases o with
  | none => rw [show r = none from h]; rfl
  | some u => obtain ⟨v, rfl, _⟩ := h; rfl
theorem o_in (hu : X.A.units + 64 < cLine) : OpR X (compareOp .In) (rd2 X.K (pyIn false)) := by
  intro pins s σ H x y v u Qv I rx ry q
  obtain ⟨P, S, w, z, Q, W, r1, r2, g, nq⟩ := q
  unfold pyIn at g
  split at g
  · obtain ⟨a, xs, rfl, h1, rl⟩ := rp_tup r2
    exact op_in_seq pins s σ H _ _ v u Qv I rx ry (in_seq W r1 rfl (.inr h1) rl g nq)
  · unfold Rp at r2
    obtain ⟨a, xs, rfl, f, rl⟩ := r2
    exact op_in_seq pins s σ H _ _ v u Qv I rx ry (in_seq W r1 rfl (.inr f.sq) rl g nq)
  · obtain ⟨a, xs, rfl, h1, rl⟩ := lsv_of W r2 rfl
    exact op_in_seq pins s σ H _ _ v u Qv I rx ry (in_seq W r1 rfl (.inl h1) rl g nq)
  · split at g
    · obtain ⟨c, rfl, g⟩ := g
      rw [rp_str] at r1 r2
      exact op_in_sign pins s σ H _ _ v u Qv I rx ry ⟨c, _, r1, r2, nq.now W rpBl g⟩
    · exact g.elim
  · split at g
    · rename_i o eo
      obtain ⟨a, r, rfl, dg, hm⟩ := dlook_of W r2 r1 eo
      cases ry
      refine d_in (by omega) I dg rx fun s' I' => ⟨.bl r.isSome, H, I', rfl, ?_⟩
      rw [dget_isSome hm]
      exact nq.now W rpBl g
    · split at g
      · rename_i ws e
        obtain ⟨a, xs, rfl, h1, rl⟩ := lsv_of W r2 e
        exact op_in_seq pins s σ H _ _ v u Qv I rx ry (in_seq W r1 rfl (.inl h1) rl g nq)
      · exact g.elim
theorem o_notin (hu : X.A.units + 64 < cLine) : OpR X (compareOp .NotIn) (rd2 X.K (pyIn true)) := by
  intro pins s σ H x y v u Qv I rx ry q
  obtain ⟨P, S, w, z, Q, W, r1, r2, g, nq⟩ := q
  unfold pyIn at g
  split at g
  · obtain ⟨a, xs, rfl, h1, rl⟩ := rp_tup r2
    exact op_notIn_seq pins s σ H _ _ v u Qv I rx ry (in_seq W r1 rfl (.inr h1) rl g nq)
  · unfold Rp at r2
    obtain ⟨a, xs, rfl, f, rl⟩ := r2
    exact op_notIn_seq pins s σ H _ _ v u Qv I rx ry (in_seq W r1 rfl (.inr f.sq) rl g nq)
  · obtain ⟨a, xs, rfl, h1, rl⟩ := lsv_of W r2 rfl
    exact op_notIn_seq pins s σ H _ _ v u Qv I rx ry (in_seq W r1 rfl (.inl h1) rl g nq)
  · split at g
    · obtain ⟨c, rfl, g⟩ := g
      rw [rp_str] at r1 r2
      exact op_notIn_sign pins s σ H _ _ v u Qv I rx ry ⟨c, _, r1, r2, nq.now W rpBl g⟩
    · exact g.elim
  · split at g
    · rename_i o eo
      obtain ⟨a, r, rfl, dg, hm⟩ := dlook_of W r2 r1 eo
      cases ry
      refine d_notIn (by omega) I dg rx fun s' I' => ⟨.bl (!r.isSome), H, I', rfl, ?_⟩
      rw [dget_isSome hm]
      exact nq.now W rpBl g
    · split at g
      · rename_i ws e
        obtain ⟨a, xs, rfl, h1, rl⟩ := lsv_of W r2 e
        exact op_notIn_seq pins s σ H _ _ v u Qv I rx ry (in_seq W r1 rfl (.inl h1) rl g nq)
      · exact g.elim
/-! ### d[k], d[k] = v, d.get(k, x), d.setdefault(k, x) -/
def pyIxD : Op2 := fun d w S Q => match dlook S d w with
  | some (some u) => Q u S
  | _ => False
theorem o_ixD (hu : X.A.units + 64 < cLine) : IxR X (rd2 X.K pyIxD) := by
  intro value slice pins s σ H x y v u Qv I rx ry h hs
  obtain ⟨P, S, w, z, Q, W, r1, r2, g, nq⟩ := h
  unfold pyIxD at g
  split at g
  · rename_i o eo
    obtain ⟨a, r, rfl, dg, hm⟩ := dlook_of W r1 r2 eo
    obtain ⟨v', rfl, rv⟩ := hm
    cases rx
    unfold subscriptTail
    have hT := dict_typeIs I dg
    refine wpAny_bind ?_
    rw [getitemInPython_of_ne hT.not_modules]
    refine wpAny_bind (wpAny_specialOf hT PySem.F.slot_dict_getitem.lookup ?_)
    have fin : wpAny (model X.prog X.w) X.A (subscripted slice false (.ref a) u) (fun r s₃ => wpAny (model X.prog X.w) X.A (letTemporaryGo value (.ref a) r >>= fun _ => pure r) (EP X pins σ Qv) X.xe s₃) X.xe s := by
      rw [hs]
      exact wpAny_operating (d_getItem (by omega) I dg ry fun w' s3 I3 rw' => wpAny_bind (wpAny_letTemporaryGo (wpAny_pure ⟨v', H, I3, rw', nq.now W rv g⟩)))
    first
      | exact wpAny_pure (wpAny_bind fin)
      | exact wpAny_bind (wpAny_pure (wpAny_bind fin))
      | exact wpAny_bind fin
  · exact g.elim
/-- a store into a dict -/
def memK {κ : Type} [DecidableEq κ] (ks : List κ) (k : κ) : Bool := ks.any fun x => decide (x = k)
def putKs {κ : Type} [DecidableEq κ] (ks : List κ) (k : κ) : List κ := if memK ks k = true then ks else ks ++ [k]
def putWs {κ : Type} [DecidableEq κ] (ks : List κ) (ws : List Dt) (k : κ) (w : Dt) : List Dt := if memK ks k = true then ks.zipWith (fun x y => if x = k then w else y) ws else ws ++ [w]
end
section
variable {K : Frg} {P : Hid} {S : Store} {H : Hp}
theorem any_zip {κ : Type} [DecidableEq κ] (k : κ) : ∀ {ks : List κ} {xs : List V}, ks.length = xs.length → ((ks.zip xs).any fun kv => decide (kv.1 = k)) = memK ks k
  | [], [], _ => rfl
  | x :: ks, y :: xs, h => by
    show (decide (x = k) || (ks.zip xs).any fun kv => decide (kv.1 = k)) = (decide (x = k) || memK ks k)
    rw [any_zip k (by simpa using h)]
  | [], _ :: _, h => by simp at h
  | _ :: _, [], h => by simp at h
theorem map_zip {κ : Type} [DecidableEq κ] (k : κ) (v : V) : ∀ {ks : List κ} {xs : List V}, ks.length = xs.length → (ks.zip xs).map (fun kv => if kv.1 = k then (kv.1, v) else kv) = ks.zip (ks.zipWith (fun x y => if x = k then v else y) xs)
  | [], [], _ => rfl
  | x :: ks, y :: xs, h => by
    show (if x = k then (x, v) else (x, y)) :: (ks.zip xs).map (fun kv => if kv.1 = k then (kv.1, v) else kv) = (x, if x = k then v else y) :: ks.zip (ks.zipWith (fun x y => if x = k then v else y) xs)
    rw [map_zip k v (by simpa using h)]
    by_cases e : x = k <;> simp [e]
  | [], _ :: _, h => by simp at h
  | _ :: _, [], h => by simp at h
theorem zipWith_rp {κ : Type} [DecidableEq κ] (k : κ) {w : Dt} {v : V} (r : Rp K P S H w v) : ∀ {ks : List κ} {ws : List Dt} {xs : List V}, ks.length = ws.length → RpL K P S H ws xs → RpL K P S H (ks.zipWith (fun x y => if x = k then w else y) ws) (ks.zipWith (fun x y => if x = k then v else y) xs)
  | [], [], xs, _, rl => RpL.nil
  | x :: ks, z :: ws, xs, h, rl => by
    obtain ⟨u, t, rfl, r1, r2⟩ := rl.consE
    refine RpL.cons ?_ (zipWith_rp k r (by simpa using h) r2)
    dsimp only
    by_cases e : x = k
    · rw [if_pos e, if_pos e]; exact r
    · rw [if_neg e, if_neg e]; exact r1
  | [], _ :: _, _, h, _ => by simp at h
  | _ :: _, [], _, h, _ => by simp at h
theorem put_zip {κ : Type} [DecidableEq κ] {ks : List κ} {ws : List Dt} {xs : List V} (k : κ) {w : Dt} {v : V} (hl : ks.length = ws.length) (rl : RpL K P S H ws xs) (r : Rp K P S H w v) :
    ∃ xs', putK (ks.zip xs) k v = (putKs ks k).zip xs' ∧ (putKs ks k).length = (putWs ks ws k w).length ∧ RpL K P S H (putWs ks ws k w) xs' := by
  have hx : ks.length = xs.length := by rw [hl]; exact rl.length
  unfold putK putKs putWs
  rw [any_zip k hx]
  by_cases h : memK ks k = true
  · rw [if_pos h, if_pos h, if_pos h]
    exact ⟨_, map_zip k v hx, by rw [List.length_zipWith, hl, Nat.min_self], zipWith_rp k r hl rl⟩
  · rw [if_neg h, if_neg h, if_neg h]
    refine ⟨xs ++ [v], ?_, by rw [List.length_append, List.length_append, hl]; rfl, rl.append (RpL.cons r RpL.nil)⟩
    rw [List.zip_append hx]
    rfl
theorem Wd.putK (W : Wd K P S H) {a : Addr} {ks : List Key} {ws : List Dt} {xs : List V} {u : Ob} (ea : S a = some u) (hz : ks.length = ws.length) (rl : RpL K P (sup S a (.dK ks ws)) (upd H a (.dK (ks.zip xs))) ws xs) :
    Wd K P (sup S a (.dK ks ws)) (upd H a (.dK (ks.zip xs))) := W.put (b := .dK ks ws) (W.nohid ea) (fun n => by rw [ea] at n; cases n) ⟨xs, upd_same, hz, rl⟩
theorem Wd.putT (W : Wd K P S H) {a : Addr} {ks : List (List Key)} {ws : List Dt} {xs : List V} {u : Ob} (ea : S a = some u) (hz : ks.length = ws.length) (rl : RpL K P (sup S a (.dT ks ws)) (upd H a (.dT (ks.zip xs))) ws xs) :
    Wd K P (sup S a (.dT ks ws)) (upd H a (.dT (ks.zip xs))) := W.put (b := .dT ks ws) (W.nohid ea) (fun n => by rw [ea] at n; cases n) ⟨xs, upd_same, hz, rl⟩
end
section
variable {X : Cx} {E : WX}
/-- d[k] = v -/
def pyDPut : OpSet := fun d w v S Q => match d with
  | .ref a => match S a with
    | some (.dK ks ws) => (match keyW w with
      | some k => ks.length < sizeLine ∧ Q (sup S a (.dK (putKs ks k) (putWs ks ws k v)))
      | none => False)
    | some (.dT ks ws) => (match tkeyW w with
      | some k => ks.length < sizeLine ∧ Q (sup S a (.dT (putKs ks k) (putWs ks ws k v)))
      | none => False)
    | _ => False
  | _ => False
theorem s_dict (hu : X.A.units + 64 < cLine) : PSet X (rdSet X.K pyDPut) := by
  intro pins s σ H o i v ov iv u Qv I ro ri rv h
  obtain ⟨P, S, wo, wi, w, Q, W, r1, r2, r3, g, k⟩ := h
  unfold pyDPut at g
  split at g
  · rename_i a
    rw [rp_ref] at r1
    subst r1
    cases ro
    split at g
    · rename_i ks ws ea
      split at g
      · rename_i ky ek
        obtain ⟨g1, g2⟩ := g
        have := keyW_V r2 ek
        subst this
        obtain ⟨xs, e, hl, rl⟩ := W.sim a _ ea
        obtain ⟨xs', e1, e2, e3⟩ := put_zip ky hl rl r3
        have hz : (ks.zip xs).length < sizeLine := by rw [List.length_zip, ← rl.length, ← hl, Nat.min_self]; exact g1
        refine d_setItem (by omega) I (DPut.k e hz) ri rv fun s' I' => ⟨_, I', ?_⟩
        rw [e1]
        have ev : Evo S H (sup S a (.dK (putKs ks ky) (putWs ks ws ky w))) (upd H a (.dK ((putKs ks ky).zip xs'))) := Evo.set ea
        exact k _ _ (W.putK ea e2 (e3.mono ev)) ev g2
      · exact g.elim
    · rename_i ks ws ea
      split at g
      · rename_i ky ek
        obtain ⟨g1, g2⟩ := g
        cases wi with
        | tup us =>
          unfold Rp at r2
          obtain ⟨b, zs, rfl, fz, rz⟩ := r2
          have ez := keysW_V rz ek
          subst ez
          obtain ⟨xs, e, hl, rl⟩ := W.sim a _ ea
          obtain ⟨xs', e1, e2, e3⟩ := put_zip ky hl rl r3
          have hz : (ks.zip xs).length < sizeLine := by rw [List.length_zip, ← rl.length, ← hl, Nat.min_self]; exact g1
          refine d_setItem (by omega) I (DPut.t e fz.1 hz) ri rv fun s' I' => ⟨_, I', ?_⟩
          rw [e1]
          have ev : Evo S H (sup S a (.dT (putKs ks ky) (putWs ks ws ky w))) (upd H a (.dT ((putKs ks ky).zip xs'))) := Evo.set ea
          exact k _ _ (W.putT ea e2 (e3.mono ev)) ev g2
        | _ => cases ek
      · exact g.elim
    · exact g.elim
  · exact g.elim
/-- d.get(k, x) -/
def isDict (S : Store) : Dt → Bool
  | .dK _ _ | .dT _ _ => true
  | .ref a => match S a with
    | some (.dK _ _) => true
    | some (.dT _ _) => true
    | _ => false
  | _ => false
theorem isDict_of {K : Frg} {P : Hid} {S : Store} {H : Hp} (W : Wd K P S H) {d : Dt} {x : V} (r : Rp K P S H d x) (h : isDict S d = true) : ∃ a, x = .ref a ∧ IsD H a := by
  unfold isDict at h
  split at h
  · unfold Rp at r
    obtain ⟨a, xs, rfl, fz, _⟩ := r
    exact ⟨a, rfl, .inl ⟨_, .inl fz.1⟩⟩
  · unfold Rp at r
    obtain ⟨a, xs, rfl, fz, _⟩ := r
    exact ⟨a, rfl, .inr ⟨_, .inl fz.1⟩⟩
  · rename_i a
    rw [rp_ref] at r
    split at h
    · rename_i ks ws e
      obtain ⟨xs, e2, _⟩ := W.sim a _ e
      exact ⟨a, r, .inl ⟨_, .inl e2⟩⟩
    · rename_i ks ws e
      obtain ⟨xs, e2, _⟩ := W.sim a _ e
      exact ⟨a, r, .inr ⟨_, .inl e2⟩⟩
    · cases h
  · cases h
def mGet2 (md mk mx : ME) : ME := fun σ S Q Ex => md σ S (fun d S1 => isDict S1 d = true ∧ mk σ S1 (fun w S2 => mx σ S2 (fun z S3 => match dlook S3 d w with
  | some o => Q (o.getD z) S3
  | none => False) Ex) Ex) Ex
theorem je_get2 {o e f : Expr} {md mk mx : ME} {apos cpos : Pos} (hu : X.A.units + 64 < cLine) (ho : JE X E o md) (he : JE X E e mk) (hf : JE X E f mx) (m : M2 X o "get" apos e f cpos := by exact ⟨by rfl, by rfl, by rfl, by rfl⟩) :
    JE X E (.Call (.Attribute o "get" apos) [e, f] [] cpos) (mGet2 md mk mx) := PE.weak (pe_dget2 (by omega) ho he hf m) fun σv H Qv q => by
  obtain ⟨P, S, σ, Q, Ex, W, r, m, nq, nx⟩ := q
  refine ⟨P, S, σ, _, Ex, W, r, m, fun v H1 d S1 W1 r1 e1 m1 => ?_, nx⟩
  obtain ⟨a, rfl, isd⟩ := isDict_of W1 r1 m1.1
  refine ⟨a, rfl, isd, P, S1, σ, _, Ex, W1, r.mono e1, m1.2, fun y H2 w S2 W2 r2 e2 m2 => ?_, nx.after e1⟩
  refine ⟨P, S2, σ, _, Ex, W2, r.mono (e1.trans e2), m2, fun z H3 wz S3 W3 r3 e3 m3 => ?_, nx.after (e1.trans e2)⟩
  dsimp only at m3
  split at m3
  · rename_i o eo
    obtain ⟨a', rr, ea, dg, hm⟩ := dlook_of W3 (r1.mono (e2.trans e3)) (r2.mono e3) eo
    cases ea
    refine ⟨rr, dg, ?_⟩
    cases o with
    | none =>
      rw [show rr = none from hm]
      exact nq z H3 wz S3 W3 r3 ((e1.trans e2).trans e3) m3
    | some u =>
      obtain ⟨v', rfl, rv⟩ := hm
      exact nq v' H3 u S3 W3 rv ((e1.trans e2).trans e3) m3
  · exact m3.elim
end
/-! ### targets of comprehensions -/
def BindsG (K : Frg) (g : TG) (vs : List Nat) (b : BW) : Prop := ∀ (P : Hid) (S : Store) (H : Hp) (w : Dt) (v : V) (σ σ' : Env) (σv : L2.St) (R : L2.St → Hp → Prop), Wd K P S H → RpS K P S H σ σv → Rp K P S H w v → b w σ = some σ' →
  (∀ σv', RpS K P S H σ' σv' → σv'.length = σv.length → (∀ j, j ∉ vs → σv'[j]? = σv[j]?) → R σv' H) → g v σv H R
abbrev BWs := List Dt → Env → Option Env
def BindsGs (K : Frg) (g : TGs) (vs : List Nat) (b : BWs) : Prop := ∀ (P : Hid) (S : Store) (H : Hp) (ws : List Dt) (xs : List V) (σ σ' : Env) (σv : L2.St) (R : L2.St → Hp → Prop), Wd K P S H → RpS K P S H σ σv → RpL K P S H ws xs → b ws σ = some σ' →
  (∀ σv', RpS K P S H σ' σv' → σv'.length = σv.length → (∀ j, j ∉ vs → σv'[j]? = σv[j]?) → R σv' H) → g xs σv H R
def bNil : BWs := fun ws σ => match ws with
  | [] => some σ
  | _ => none
def bCons (b : BW) (bs : BWs) : BWs := fun ws σ => match ws with
  | w :: r => match b w σ with
    | some σ1 => bs r σ1
    | none => none
  | [] => none
def bTup (n : Nat) (bs : BWs) : BW := fun w σ => match w with
  | .tup ws => if ws.length = n then bs ws σ else none
  | _ => none
theorem bg_name {K : Frg} {i : Nat} : BindsG K (gName i) [i] (bName i) := fun P S H w v σ σ' σv R W r rw' e k => by
  cases e
  refine k _ (r.set rw') (by rw [List.length_set]) fun j hj => ?_
  rw [List.getElem?_set_ne (fun z => hj (by rw [z]; exact List.mem_singleton.mpr rfl))]
theorem bg_nil {K : Frg} : BindsGs K gNil [] bNil := fun P S H ws xs σ σ' σv R W r rl e k => by
  unfold bNil at e
  split at e
  · cases e
    exact ⟨rl.nilE, k σv r rfl fun _ _ => rfl⟩
  · cases e
theorem bg_cons {K : Frg} {g : TG} {gs : TGs} {vs us : List Nat} {b : BW} {bs : BWs} (h : BindsG K g vs b) (hs : BindsGs K gs us bs) : BindsGs K (gCons g gs) (vs ++ us) (bCons b bs) := fun P S H ws xs σ σ' σv R W r rl e k => by
  unfold bCons at e
  split at e
  · rename_i w t
    obtain ⟨v, xr, rfl, r1, r2⟩ := rl.consE
    split at e
    · rename_i σ1 e1
      refine ⟨v, xr, rfl, h P S H w v σ σ1 σv _ W r r1 e1 fun σv1 q1 l1 k1 => ?_⟩
      refine hs P S H t xr σ1 σ' σv1 _ W q1 r2 e fun σv2 q2 l2 k2 => k σv2 q2 (l2.trans l1) fun j hj => ?_
      rw [List.mem_append, not_or] at hj
      rw [k2 j hj.2, k1 j hj.1]
    · cases e
  · cases e
theorem bg_tup {K : Frg} {n : Nat} {gs : TGs} {vs : List Nat} {bs : BWs} (hs : BindsGs K gs vs bs) : BindsG K (gTup K n gs) vs (bTup n bs) := fun P S H w v σ σ' σv R W r rw' e k => by
  unfold bTup at e
  split at e
  · rename_i ws
    split at e
    · rename_i hl
      obtain ⟨p, xs, rfl, h1, rl⟩ := rp_tup rw'
      exact ⟨p, xs, rfl, h1, by rw [← rl.length]; exact hl, hs P S H ws xs σ σ' σv R W r rl e k⟩
    · cases e
  · cases e
theorem wipe_get {σ : L2.St} : ∀ {vs : List Nat} {j : Nat}, (L2.wipe σ vs)[j]? = if j ∈ vs then (if j < σ.length then some none else none) else σ[j]?
  | [], j => by simp [L2.wipe]
  | v :: vs, j => by
    unfold L2.wipe
    by_cases e : v = j
    · subst e
      rw [if_pos List.mem_cons_self]
      by_cases l : v < σ.length
      · rw [if_pos l, List.getElem?_set_self (by rw [L2.wipe_length]; exact l)]
      · rw [if_neg l, List.getElem?_eq_none (by rw [List.length_set, L2.wipe_length]; omega)]
    · rw [List.getElem?_set_ne e, wipe_get (vs := vs)]
      by_cases m : j ∈ vs
      · rw [if_pos m, if_pos (List.mem_cons_of_mem _ m)]
      · rw [if_neg m, if_neg (fun z => (List.mem_cons.mp z).elim (fun q => e q.symm) m)]
theorem binds_of {K : Frg} {g : TG} {vs us : List Nat} {b : BW} (h : BindsG K g us b) (hs : ∀ j ∈ us, j ∈ vs) : Binds1 K g vs b := fun P S H w v σ σ' σv R W r rw' e k => by
  refine h P S H w v (wipeW σ vs) σ' (L2.wipe σv vs) R W (r.wipe vs) rw' e fun σv' q l kk => k σv' q ?_
  apply List.ext_getElem?
  intro j
  rw [wipe_get, wipe_get, l, L2.wipe_length]
  by_cases m : j ∈ vs
  · rw [if_pos m, if_pos m]
  · rw [if_neg m, if_neg m, kk j (fun z => m (hs j z)), wipe_get, if_neg m]
/-! ### new lists: +, slices, [::-1]; sorted of ints -/
section
variable {X : Cx} {E : WX}
def mCatL (ma mb : ME) : ML := fun σ S Q Ex => ma σ S (fun x S1 => mb σ S1 (fun y S2 => match plv S2 x, plv S2 y with
  | some a, some b => a.length + b.length ≤ sizeLine ∧ Q (a ++ b) S2
  | _, _ => False) Ex) Ex
theorem jl_cat {a b : Expr} {ma mb : ME} {pos : Pos} (ha : JE X E a ma) (hb : JE X E b mb) : JL X E (.BinOp a .Add b pos) (mCatL ma mb) := PE.weak (pe_op op_cat ha hb) fun σv H Qv q => by
  obtain ⟨P, S, σ, Q, Ex, W, r, m, nl, nx⟩ := q
  refine ⟨P, S, σ, _, Ex, W, r, m, fun v H1 x S1 W1 r1 e1 m1 => ?_, nx⟩
  refine ⟨P, S1, σ, _, Ex, W1, r.mono e1, m1, fun u H2 y S2 W2 r2 e2 m2 => ?_, nx.after e1⟩
  dsimp only at m2
  split at m2
  · rename_i as bs ea eb
    obtain ⟨p, xs, rfl, h1, rl1⟩ := plv_of W2 (r1.mono e2) ea
    obtain ⟨q, ys, rfl, h2, rl2⟩ := plv_of W2 r2 eb
    exact ⟨p, q, xs, ys, rfl, rfl, h1, h2, by rw [← rl1.length, ← rl2.length]; exact m2.1, fun p hp => nl p H2 _ _ _ S2 W2 hp rfl (rl1.append rl2) (e1.trans e2) m2.2⟩
  · exact m2.elim
def mSlL (ma : ME) (ml mh : MO) : ML := fun σ S Q Ex => ma σ S (fun x S1 => ml σ S1 (fun lo S2 => mh σ S2 (fun hi S3 => match lsv S3 x with
  | some ws => Q (cutW ws lo hi) S3
  | none => False) Ex) Ex) Ex
theorem jl_slice {a : Expr} {lo hi : Option Expr} {ma : ME} {ml mh : MO} {pos p2 : Pos} (ha : JE X E a ma) (hl : JO X E lo ml) (hh : JO X E hi mh) : JL X E (.Subscript a (.Slice lo hi none p2) pos) (mSlL ma ml mh) := PE.weak (pe_slice sl_list ha hl hh) fun σv H Qv q => by
  obtain ⟨P, S, σ, Q, Ex, W, r, m, nl, nx⟩ := q
  refine ⟨P, S, σ, _, Ex, W, r, m, fun v H1 x S1 W1 r1 e1 m1 => ?_, nx⟩
  refine ⟨P, S1, σ, _, Ex, W1, r.mono e1, m1, fun l H2 S2 W2 e2 m2 => ?_, nx.after e1⟩
  refine ⟨P, S2, σ, _, Ex, W2, r.mono (e1.trans e2), m2, fun u H3 S3 W3 e3 m3 => ?_, nx.after (e1.trans e2)⟩
  dsimp only at m3
  split at m3
  · rename_i ws e
    obtain ⟨p, xs, rfl, h1, rl⟩ := lsv_of W3 (r1.mono (e2.trans e3)) e
    exact ⟨p, xs, rfl, h1, fun q hq => nl q H3 _ _ _ S3 W3 hq rfl (cut_rp rl) ((e1.trans e2).trans e3) m3⟩
  · exact m3.elim
def mRevL (ma : ME) : ML := fun σ S Q Ex => ma σ S (fun x S1 => match lsv S1 x with
  | some ws => Q ws.reverse S1
  | none => False) Ex
theorem rev_rp {K : Frg} {P : Hid} {S : Store} {H : Hp} : ∀ {ws : List Dt} {xs : List V}, RpL K P S H ws xs → RpL K P S H ws.reverse xs.reverse
  | [], xs, h => by
    rw [h.nilE]
    exact RpL.nil
  | w :: ws, xs, h => by
    obtain ⟨v, r, rfl, a, b⟩ := h.consE
    rw [List.reverse_cons, List.reverse_cons]
    exact (rev_rp b).append (RpL.cons a RpL.nil)
theorem jl_rev {a : Expr} {ma : ME} {k : Nat} {p1 p2 p3 pos : Pos} (ha : JE X E a ma) : JL X E (.Subscript a (.Slice none none (some (.UnaryOp .USub (.Constant (.int 1) k p1) p2)) p3) pos) (mRevL ma) := PE.weak (pe_revL ha) fun σv H Qv q => by
  obtain ⟨P, S, σ, Q, Ex, W, r, m, nl, nx⟩ := q
  refine ⟨P, S, σ, _, Ex, W, r, m, fun v H1 x S1 W1 r1 e1 m1 => ?_, nx⟩
  dsimp only at m1
  split at m1
  · rename_i ws e
    obtain ⟨p, xs, rfl, h1, rl⟩ := lsv_of W1 r1 e
    exact ⟨p, xs, rfl, h1, fun q hq => nl q H1 _ _ _ S1 W1 hq rfl (rev_rp rl) e1 m1⟩
  · exact m1.elim
/-- sorted ints -/
def sortZ (ns : List Int) : List Int := ns.mergeSort fun a b => decide (a ≤ b)
theorem sortZ_of {ns ns' : List Int} (hp : ns'.Perm ns) (hs : ns'.Pairwise (· ≤ ·)) : ns' = sortZ ns := by
  have h2 : (sortZ ns).Pairwise (fun a b => decide (a ≤ b) = true) := List.pairwise_mergeSort (fun a b c => by simp; omega) (fun a b => by simp; omega) ns
  have h3 : (sortZ ns).Pairwise (· ≤ ·) := h2.imp fun h => by simpa using h
  exact List.Perm.eq_of_pairwise (fun a b _ _ h1 h2 => Int.le_antisymm h1 h2) hs h3 (hp.trans (List.mergeSort_perm ns _).symm)
def pySortedI : List Dt → Store → (List Dt → Store → Prop) → Prop
  | [w], S, Q => match lsv S w with
    | some ws => ∃ ns : List Int, ws = ns.map Dt.int ∧ Q ((sortZ ns).map Dt.int) S
    | none => False
  | _, _, _ => False
theorem c_sortedI : CallR X (.builtin "sorted") (rdNL X.K pySortedI) := by
  intro pins s σ H vs us Qv I rv h
  obtain ⟨P, S, ws, Q, W, r, g, nl⟩ := h
  unfold pySortedI at g
  split at g
  · rename_i w
    obtain ⟨v, rfl, r1⟩ := r.one
    split at g
    · rename_i us' e
      obtain ⟨ns, rfl, g⟩ := g
      obtain ⟨a, xs, rfl, h1, rl⟩ := lsv_of W r1 e
      rw [rl.mapInt] at h1
      refine cr_sortedI pins s σ H _ us Qv I rv ⟨a, ns, rfl, h1, fun ns' p hp hs hn => ?_⟩
      rw [sortZ_of hp hs]
      exact nl p _ _ _ hn rfl RpL.ofInt g
    · exact g.elim
  · exact g.elim
theorem jl_callB {x : Str} {id : String} {e : Expr} {es : List Expr} {g : List Dt → Store → (List Dt → Store → Prop) → Prop} {ma : MA} {p pos : Pos} (hc : CallR X (.builtin id) (rdNL X.K g)) (hg : Gl X x) (hm : X.mg x = none) (hv : bootBuiltins x = some (.builtin id)) (ha : JA X E (e :: es) ma)
    (hn : x ≠ "__name__" := by decide) (hdb : (x == ("__debug__" : Str)) = false := by decide) (he : starEach (e :: es) X.env = (false, eval e X.env) :: starEach es X.env := by rfl) (hpl : (backTo pos (starEach es X.env)).any (·.1) = false := by rfl) :
    JL X E (.Call (.Name x p) (e :: es) [] pos) (mFnL g ma) := PE.weak (pe_callB hc hg hm hv ha hn hdb he hpl) fun σv H Qv q => by
  obtain ⟨P, S, σ, Q, Ex, W, r, m, nl, nx⟩ := q
  exact ⟨P, S, σ, _, Ex, W, r, m, fun vs H1 ws S1 W1 r1 e1 m1 => ⟨P, S1, ws, Q, W1, r1, m1, fun p H2 ys us hp e2 rl q2 => nl p H1 H2 ys us S1 W1 hp e2 rl e1 q2⟩, nx⟩
/-! ### methods of texts -/
def pyCount : Dt → OpN
  | .str a, [.str b], S, Q => Q (.int (Txt.count a b)) S
  | _, _, _, _ => False
theorem m_count : MtR X "str.count" (rdM X.K pyCount) := by
  intro pins s σ H x vs v us Qv I rx rv h
  obtain ⟨P, S, w, ws, Q, W, r1, r2, g, nq⟩ := h
  unfold pyCount at g
  split at g
  · obtain ⟨y, rfl, r3⟩ := r2.one
    rw [rp_str] at r1 r3
    subst r1 r3
    exact mt_count pins s σ H _ _ v us Qv I rx rv ⟨_, _, rfl, rfl, nq.now W rpInt g⟩
  · exact g.elim
def strsW (ys : List Str) : List Dt := ys.map Dt.str
theorem strs_rp {K : Frg} {P : Hid} {S : Store} {H : Hp} : ∀ {ys : List Str} {xs : List V}, RpL K P S H (strsW ys) xs → xs = ys.map V.str
  | [], xs, h => h.nilE
  | y :: ys, xs, h => by
    obtain ⟨v, t, rfl, h1, h2⟩ := RpL.consE (w := .str y) (ws := strsW ys) h
    rw [rp_str] at h1
    rw [h1, strs_rp h2]
    rfl
def pyJoin : Dt → OpN
  | .str a, [w], S, Q => (match w with
    | .tup ws => ∃ ys, ws = strsW ys ∧ (ys.map (·.length)).sum + ys.length * a.length ≤ 16777216 ∧ Q (.str (Txt.join a ys)) S
    | w => match lsv S w with
      | some ws => ∃ ys, ws = strsW ys ∧ (ys.map (·.length)).sum + ys.length * a.length ≤ 16777216 ∧ Q (.str (Txt.join a ys)) S
      | none => False)
  | _, _, _, _ => False
theorem m_join : MtR X "str.join" (rdM X.K pyJoin) := by
  intro pins s σ H x vs v us Qv I rx rv h
  obtain ⟨P, S, w, ws, Q, W, r1, r2, g, nq⟩ := h
  unfold pyJoin at g
  split at g
  · obtain ⟨y, rfl, r3⟩ := r2.one
    rw [rp_str] at r1
    subst r1
    split at g
    · obtain ⟨ys, rfl, g1, g2⟩ := g
      obtain ⟨p, xs, rfl, h1, rl⟩ := rp_tup r3
      rw [strs_rp rl] at h1
      exact mt_join pins s σ H _ _ v us Qv I rx rv ⟨_, p, ys, rfl, rfl, .inr h1, g1, nq.now W rpStr g2⟩
    · split at g
      · rename_i e
        obtain ⟨ys, rfl, g1, g2⟩ := g
        obtain ⟨p, xs, rfl, h1, rl⟩ := lsv_of W r3 e
        rw [strs_rp rl] at h1
        exact mt_join pins s σ H _ _ v us Qv I rx rv ⟨_, p, ys, rfl, rfl, .inl h1, g1, nq.now W rpStr g2⟩
      · exact g.elim
  · exact g.elim
end
end Dn

/-! dict comprehensions whose keys are tuples of ints and texts -/
namespace Dn
open PySem PySem.Spec PyProof.Rows L2
/-- a key more, by a comprehension -/
theorem dt_put {X : Cx} {pins : List (Addr × Obj)} {τ : L2.St} {H : Hp} {s : Shared} {E : Value → Shared → Prop} {d b : Addr} {es : List (List Key × V)} {ky : List Key} {v : V} {u r : Value} {Q : Unit → Shared → Prop} (hu : X.A.units + 64 < cLine) (I : L2.Inv X pins τ H s)
    (hd : H d = some (.dT es)) (hz : es.length < sizeLine) (hb : H b = some (.tup (ky.map kV))) (ry : RelV (.ref b) u) (rv : RelV v r) (h : ∀ s', L2.Inv X pins τ (upd H d (.dT (putK es ky v))) s' → Q () s') :
    wpAny (model X.prog X.w) X.A (dictSet d u r) Q E s := by
  cases ry
  obtain ⟨z, nosys, xs, rel, dd⟩ := dt_of I.hok hd
  have hx : xs.length ≤ sizeLine := by rw [← Paired.length rel]; exact z
  have hp : (putK es ky v).length ≤ sizeLine := by have := length_putK es ky v; omega
  refine wpAny_dictSet_heap (hsz := hx) (show (tupleKind _).room X.A from Nat.lt_of_le_of_lt (Nat.le_add_right _ _) hu) (key_of I.hok hb) dd fun h' dd' same => h _ ?_
  obtain ⟨q, es', ep, hq, h2, h3, h4, _, h5⟩ := dd'
  refine d_write I (by rw [hd]; exact True.intro) same ⟨q, hq⟩ ⟨hp, nosys, _, (rel.put ky hb rv).keeps fun c ys ec => ?_, q, es', ep, hq, h2, h3, h4, h5⟩
  have ne : c ≠ d := ne_of ec hd fun z => nomatch z
  rw [upd_ne ne]
  exact ec
/-- the reading: D the dict that is made -/
def tDct (wi : TI) (g : TG) (tt : TT) (tk tv : TE) (vs : List Nat) : TE := fun τ H Q => wi τ H fun J H1 => ∀ D, H1 D = none → ∃ W : Nat → Nat → Hp → Prop, (∃ m, W 0 m (upd H1 D (.dT []))) ∧ ∀ i m H, W i m H →
  (J.stop i H ∧ Q (.ref D) H) ∨ (J.go i H ∧ ∃ Nx : Hp → Prop, (∀ H', Nx H' → ∃ m', m' < m ∧ W (i + 1) m' H') ∧ ∀ x H', J.yld i H x H' → g x (L2.wipe τ vs) H' fun τ2 H2 => L2.wipe τ2 vs = L2.wipe τ vs ∧ tt τ2 H2 fun c H3 =>
    if c = true then tk τ2 H3 fun y H4 => tv τ2 H4 fun z H5 => ∃ es ky b, y = .ref b ∧ H5 b = some (.tup (ky.map kV)) ∧ H5 D = some (.dT es) ∧ es.length < sizeLine ∧ Nx (upd H5 D (.dT (putK es ky z))) else Nx H3)
section
variable {X : Cx}
theorem pe_dct {kx vx tg iter : Expr} {ifs : List Expr} {scope : Scope} {own : List (Str × Nat)} {pos : Pos} {wi : TI} {g : TG} {tt : TT} {tk tv : TE} (hu : X.A.units + 64 < cLine) (hc : X.calm = true) (hN : X.N.Nodup) (hi : PI X tg iter wi) (ok : BlkOk X.N X.env.scope scope own)
    (hg : ∀ (s : Shared) (H : Hp) (C : Addr) (cl : List (Str × Addr)) (fp : List Addr), PG (X.blk s H scope (compEnvC scope cl C X.env) fp) tg g)
    (ht : ∀ (s : Shared) (H : Hp) (C : Addr) (cl : List (Str × Addr)) (fp : List Addr), PTs (X.blk s H scope (compEnvC scope cl C X.env) fp) ifs tt)
    (hk : ∀ (s : Shared) (H : Hp) (C : Addr) (cl : List (Str × Addr)) (fp : List Addr), PE (X.blk s H scope (compEnvC scope cl C X.env) fp) kx tk)
    (he : ∀ (s : Shared) (H : Hp) (C : Addr) (cl : List (Str × Addr)) (fp : List Addr), PE (X.blk s H scope (compEnvC scope cl C X.env) fp) vx tv)
    (hs : ∀ x, foldedSetIterable iter X.env x = pure x := by intro _; rfl) :
    PE X (.DictComp kx vx [⟨tg, iter, ifs, 0⟩] scope pos) (tDct wi g tt tk tv (own.map (·.2))) := by
  refine ⟨fun pins s τ H Q I hyp => ?_⟩
  rw [arm_eval_DictComp]
  refine wpAny_comprehension_free (use := none) rfl hs (closure_ok fun y hy e => (ok.free y hy e).elim (fun k => I.ok.has _ (.inl k)) fun k => I.ok.has _ (.inr k)) ok.kind (fun y hy e => by rw [ok.uniq y hy, e]) ?_
  refine thn (hi.run pins s τ H _ I hyp) fun xv sa ha => thn ha fun itv sb hb => ?_
  obtain ⟨it, fp, tn, J, Hb, rfl, Ib, T, tb, fb, rest⟩ := hb
  refine wpAny_newObj_type (newEnv_comp ?_)
  generalize eD : sb.heap.objs.size = D
  obtain ⟨W, ⟨m0, start⟩, turn⟩ := rest D (Ib.hok.fresh (Nat.le_of_eq eD))
  generalize es : ({ sb with heap := sb.heap.push { cls := .type "dict", data := .dict #[] } } : Shared) = sc
  have hsc : sc.heap = sb.heap.push { cls := .type "dict", data := .dict #[] } := by rw [← es]
  have Ic : L2.Inv X pins τ (upd Hb D (.dT [])) sc := by
    subst es
    refine Ib.laid (t' := sb.toks) (fun b o e => Heap.get?_push_of_some _ e) (Nat.le_of_eq eD) ?_
    subst eD
    exact dt_empty sb.heap Ib.big
  have small : ∀ b ∈ fp, b < sb.heap.objs.size := fun b hb => let ⟨o, e, _⟩ := T.obj _ _ tb b hb; Heap.lt_size e
  have fc : ∀ b ∈ fp, FpOk X pins (upd Hb D (.dT [])) b ∧ b < sc.heap.objs.size := fun b hb => by
    have l := small b hb
    have ne : b ≠ D := by rw [← eD]; exact Nat.ne_of_lt l
    exact ⟨⟨by rw [upd_ne ne]; exact (fb b hb).1, (fb b hb).2⟩, by rw [hsc, Heap.size_push]; exact Nat.lt_succ_of_lt l⟩
  have tc : tn 0 sc.heap := T.keep _ _ _ tb fun b _ o e => by rw [hsc]; exact Heap.get?_push_of_some _ e
  have Id := block_start Ic ok hN fc
  have pg := hg sc (upd Hb D (.dT [])) sc.heap.objs.size (cellsFrom (sc.heap.objs.size + 1) scope.names (cloFrom X.env.cells scope.names [])) fp
  have pt := ht sc (upd Hb D (.dT [])) sc.heap.objs.size (cellsFrom (sc.heap.objs.size + 1) scope.names (cloFrom X.env.cells scope.names [])) fp
  have pk := hk sc (upd Hb D (.dT [])) sc.heap.objs.size (cellsFrom (sc.heap.objs.size + 1) scope.names (cloFrom X.env.cells scope.names [])) fp
  have pv := he sc (upd Hb D (.dT [])) sc.heap.objs.size (cellsFrom (sc.heap.objs.size + 1) scope.names (cloFrom X.env.cells scope.names [])) fp
  generalize ec : compEnvC scope (cellsFrom (sc.heap.objs.size + 1) scope.names (cloFrom X.env.cells scope.names [])) sc.heap.objs.size X.env = ce at Id pg pt pk pv
  have eL : ce.locals = sc.heap.objs.size := by subst ec; rfl
  have goal : codeAny (model X.prog X.w) X.A (.compStart (.DictComp kx vx [⟨tg, iter, ifs, 0⟩] scope pos) 0 (.ref it) (.ref D) ce) (compPost (model X.prog X.w) X.A X.xe none (EP X pins τ Q) (.ref D) sc.heap.objs.size) { sc with heap := pushCells (sc.heap.push { cls := .type "dict", data := .dict #[] }) scope.names } := by
    have empty : ∀ b ∈ fp, (upd Hb D (.dT [])) b = none := fun b hb => (fc b hb).1.1
    generalize eH : upd Hb D (.dT []) = Hc at Ic Id pg pt pk pv start empty fc
    generalize ed : ({ sc with heap := pushCells (sc.heap.push { cls := .type "dict", data := .dict #[] }) scope.names } : Shared) = sd at Id ⊢
    have td : tn 0 sd.heap := T.keep _ _ _ tc fun b _ o e => by rw [← ed]; exact pushCells_keeps _ _ _ _ (Heap.get?_push_of_some _ e)
    have stat : ∀ {τ' : L2.St} {H' : Hp} {s' : Shared}, L2.Inv (X.blk sc Hc scope ce fp) [] τ' H' s' → (∀ b ∈ fp, H' b = none) → ∀ b ∈ fp, FpOk (X.blk sc Hc scope ce fp) [] H' b := fun {τ' H' s'} I' n b hb =>
      ⟨n b hb, (I'.ok.exf b hb).1, I'.ok.exfs b hb, .inl hb, fun x c e => (I'.ok.exf b hb).2 x c e, fun p hp => by cases hp⟩
    refine codeAny_compStart_dict ?loop (T.self X.A 0 _ _ _ td ?loop)
    refine compLoop_anyD (fun n s' => ∃ i H', L2.Inv (X.blk sc Hc scope ce fp) [] (L2.wipe τ (own.map (·.2))) H' s' ∧ tn i s'.heap ∧ (∀ b ∈ fp, H' b = none) ∧ W i n H') ?_ m0 ⟨0, Hc, Id, td, empty, start⟩
    rintro n s5 ⟨i, H5, I5, t5, n5, w5⟩
    rcases turn i n H5 w5 with ⟨stop, fin⟩ | ⟨go, Nx, dec, step⟩
    · refine thnF (T.done (X.blk sc Hc scope ce fp) rfl rfl rfl hc i [] s5 _ H5 (fun _ _ => False) I5 (stat I5 n5) t5 stop) fun r s6 ⟨hr, I6⟩ => ?_
      subst hr
      have back : L2.Inv X pins τ H5 s6 := Ic.call' (ch := fp) I6.os I6.base I6.hok I6.bare fun b hb => ⟨(fc b hb).1.2.2.2.1, (fc b hb).1.2.1, (fc b hb).1.2.2.2.2.1, (fc b hb).1.2.2.2.2.2⟩
      have nC : H5 sc.heap.objs.size = none := eL ▸ (show H5 ce.locals = none from I6.free)
      obtain ⟨m, hm, _⟩ := I6.loc
      have hm2 : s6.heap.Ns sc.heap.objs.size m := eL ▸ (show s6.heap.Ns ce.locals m from hm)
      refine ⟨m, hm2, fun h'' same => ?_⟩
      obtain ⟨f0, f1, f2, f3, f4, f5⟩ := Ic.fpOk (Nat.le_refl _) nC
      exact ⟨.ref D, H5, back.turned (t' := s6.toks) (fun b o hb e => (same.2 b hb).trans e) f0 f1 f3 f4 f5, rfl, fin⟩
    · refine thnF (T.item (X.blk sc Hc scope ce fp) rfl rfl rfl hc i [] s5 _ H5 (fun _ _ => False) I5 (stat I5 n5) t5 go) fun r s6 ⟨u, hr, h6⟩ => ?_
      subst hr
      refine thnF h6 fun _ s7 ⟨x, H7, I7, r7, y7, t7, n7⟩ => ?_
      refine thnF (pg.run _ s7 _ H7 x u _ (I7.pinned (stat I7 n7) (T.obj _ _ t7)) r7 (step x H7 y7)) fun _ s8 ⟨τ8, H8, I8, hw, q8⟩ => ?_
      refine thnF (pt.run _ s8 τ8 H8 _ I8 q8) fun c s9 ⟨H9, I9, q9⟩ => ?_
      have again : ∀ {s' : Shared} {H' : Hp}, L2.Inv (X.blk sc Hc scope ce fp) ([] ++ pinsAt fp s7.heap) τ8 H' s' → Nx H' → ∃ m, m < n ∧ ∃ i H', L2.Inv (X.blk sc Hc scope ce fp) [] (L2.wipe τ (own.map (·.2))) H' s' ∧ tn i s'.heap ∧ (∀ b ∈ fp, H' b = none) ∧ W i m H' := fun {s' H'} I' nx => by
        obtain ⟨m', lt, w'⟩ := dec H' nx
        have pin : ∀ b ∈ fp, ∀ o, s7.heap.get? b = some o → s'.heap.get? b = some o ∧ H' b = none := fun b hb o e => by
          have z := I'.pin (b, o) (List.mem_append_right _ (List.mem_append_right _ (mem_pinsAt hb e)))
          exact ⟨z.1, z.2.1⟩
        have len : (L2.wipe τ (own.map (·.2))).length = τ8.length := by rw [← hw, L2.wipe_length]
        refine ⟨m', lt, i + 1, H', (I'.unpinned (pins := [])).weak len (fun j v e => (wipe_some (hw.symm ▸ e)).1), T.keep _ _ _ t7 fun b hb o e => (pin b hb o e).1, fun b hb => ?_, w'⟩
        obtain ⟨o, e, _⟩ := T.obj _ _ t7 b hb
        exact (pin b hb o e).2
      cases c with
      | false => exact again I9 q9
      | true =>
        refine thnF (pk.run _ s9 τ8 H9 _ I9 q9) fun kv s10 ⟨yk, H10, I10, r10, q10⟩ => ?_
        refine thnF (pv.run _ s10 τ8 H10 _ I10 q10) fun vv s11 ⟨yv, H11, I11, r11, es, ky, b, ek, eb, eD2, hz, nx⟩ => ?_
        subst ek
        exact dt_put (X := X.blk sc Hc scope ce fp) hu I11 eD2 hz eb r10 r11 fun s12 I12 => again I12 nx
  subst ec
  exact goal
end
/-- the turns of a dict comprehension -/
def dcompWT (b : BW) (mt : MT) (mk mv : ME) (σ : Env) (vs : List Nat) (gd : Store → Prop) (Q : List (List Key) → List Dt → Store → Prop) : List Dt → List (List Key) → List Dt → Store → Prop
  | [], ks, acc, S => gd S ∧ Q ks acc S
  | w :: ws, ks, acc, S => gd S ∧ match b w (wipeW σ vs) with
    | some σ1 => mt σ1 S (fun c S2 => br c (mk σ1 S2 (fun x S3 => mv σ1 S3 (fun y S4 => match tkeyW x with
        | some k => ks.length < sizeLine ∧ dcompWT b mt mk mv σ vs gd Q ws (putKs ks k) (putWs ks acc k y) S4
        | none => False) (fun _ _ => False)) (fun _ _ => False)) (dcompWT b mt mk mv σ vs gd Q ws ks acc S2)) (fun _ _ => False)
    | none => False
def mDcompT (mi : MI) (b : BW) (mt : MT) (mk mv : ME) (vs : List Nat) : MDT := fun σ S Q Ex => mi σ S (fun ws gd S1 => dcompWT b mt mk mv σ vs gd Q ws [] [] S1) Ex
theorem dcomp_weakT {K : Frg} {E : WX} {mi : MI} {g : TG} {b : BW} {mt : MT} {mk mv : ME} {vs : List Nat} (hb : Binds1 K g vs b) {σv : L2.St} {H : Hp} {Qv : VK} (h : rdDT K E (mDcompT mi b mt mk mv vs) σv H Qv) :
    tDct (rdI K E mi) g (rdT K (fun _ _ _ _ => False) mt) (rdE K (fun _ _ _ _ => False) mk) (rdE K (fun _ _ _ _ => False) mv) vs σv H Qv := by
  obtain ⟨P, S, σ, Q, Ex, W, r, m, nl, nx⟩ := h
  refine ⟨P, S, σ, _, Ex, W, r, m, fun J H1 ws gd S1 W1 e1 dl m1 => ?_, nx⟩
  intro Dl hD
  have hp : ∀ b, (P b ∨ b = Dl) → P b ∨ H1 b = none := fun b h => h.imp id fun z => by rw [z]; exact hD
  have nD : ∀ {a o}, H1 a = some o → a ≠ Dl := fun h z => by rw [z, hD] at h; cases h
  refine ⟨fun i k H2 => ∃ S2 us ks acc xs, Wd K (fun b => P b ∨ b = Dl) S2 H2 ∧ Evo S1 H1 S2 H2 ∧ H2 Dl = some (.dT (ks.zip xs)) ∧ ks.length = acc.length ∧ RpL K (fun b => P b ∨ b = Dl) S2 H2 acc xs ∧ us = ws.drop i ∧ k = us.length ∧ i ≤ ws.length ∧ dcompWT b mt mk mv σ vs gd Q us ks acc S2,
    ⟨ws.length, S1, ws, [], [], [], hide W1 hD, Evo.new hD, upd_same, rfl, RpL.nil, rfl, rfl, Nat.zero_le _, m1⟩, ?_⟩
  rintro i k H2 ⟨S2, us, ks, acc, xs, W2, e2, hx, hlen, rl, eu, ek, hi, f⟩
  have sD : S2 Dl = none := (W2.hid Dl (.inr rfl)).1
  have zl : (ks.zip xs).length = ks.length := by rw [List.length_zip, ← rl.length, ← hlen, Nat.min_self]
  cases us with
  | nil =>
    unfold dcompWT at f
    have hl : ws.length ≤ i := by
      have := congrArg List.length eu
      simp at this
      omega
    refine .inl ⟨(dl _ S2 H2 i hp W2 e2 f.1).2 hl, ?_⟩
    have ev : Evo S1 (upd H1 Dl (.dT [])) S2 (upd H2 Dl (.dT [])) := fun a o n h => by
      by_cases z : a = Dl
      · subst z
        rw [upd_same] at h ⊢
        exact ⟨h, sD⟩
      · rw [upd_ne z] at h ⊢
        exact e2 a o n h
    have c : ∀ a o, H2 a = some o → S2 a = none → ¬ (P a ∨ a = Dl) → hdel H2 Dl a = some o ∧ S2 a = none ∧ ¬ P a := fun a o h n q => ⟨by unfold hdel; rw [if_neg fun z => q (.inr z)]; exact h, n, fun z => q (.inl z)⟩
    have fr := W1.free hD
    have dn : ∀ {a : Addr}, a ≠ Dl → hdel H2 Dl a = H2 a := fun {a} z => by unfold hdel; rw [if_neg z]
    refine nl Dl (hdel H2 Dl) H2 xs ks acc S2 ⟨fun a o e => ?_, fun a q => ?_⟩ (by unfold hdel; rw [if_pos rfl]) ?_ hlen (rl.conv c) (e1.trans fun a o n h => ?_) f.2
    · exact (W2.sim a o e).conv c fun u hu => by rw [dn fun z => by rw [z, sD] at e; cases e]; exact hu
    · obtain ⟨h1, u, h2⟩ := W2.hid a (.inl q)
      exact ⟨h1, u, by rw [dn fun z => fr.2 (z ▸ q)]; exact h2⟩
    · funext a
      by_cases z : a = Dl
      · rw [z, upd_same]; exact hx
      · rw [upd_ne z, dn z]
    · obtain ⟨h1, h2⟩ := e2 a o n h
      exact ⟨by rw [dn (nD h)]; exact h1, h2⟩
  | cons w us =>
    unfold dcompWT at f
    have ew : ws[i]? = some w := by
      have := congrArg List.head? eu
      rw [List.head?_cons, List.head?_drop] at this
      exact this.symm
    have hil : i < ws.length := (List.getElem?_eq_some_iff.mp ew).1
    have eu2 : us = ws.drop (i + 1) := by
      have := congrArg List.tail eu
      rw [List.tail_cons, List.tail_drop] at this
      exact this
    obtain ⟨hgo, hy⟩ := (dl _ S2 H2 i hp W2 e2 f.1).1 w ew
    refine .inr ⟨hgo, fun H' => ∃ S3 ks' acc' xs', Wd K (fun b => P b ∨ b = Dl) S3 H' ∧ Evo S1 H1 S3 H' ∧ H' Dl = some (.dT (ks'.zip xs')) ∧ ks'.length = acc'.length ∧ RpL K (fun b => P b ∨ b = Dl) S3 H' acc' xs' ∧ dcompWT b mt mk mv σ vs gd Q us ks' acc' S3, fun H' hN => ?_, fun x H' hx' => ?_⟩
    · obtain ⟨S3, ks', acc', xs', W3, e3, h3, l3, rl3, f3⟩ := hN
      exact ⟨us.length, by rw [ek, List.length_cons]; omega, S3, us, ks', acc', xs', W3, e3, h3, l3, rl3, eu2, rfl, hil, f3⟩
    · obtain ⟨W3, e3, r3⟩ := hy x H' hx'
      have f2 := f.2
      split at f2
      · rename_i σ1 eb
        have rs : RpS K (fun b => P b ∨ b = Dl) S2 H' σ σv := ⟨r.1, fun j z q => by
          obtain ⟨v, a, b⟩ := (r.mono e1).2 j z q
          exact ⟨v, a, rp_live hp (e2.trans e3) b⟩⟩
        refine hb _ S2 H' w x σ σ1 σv _ W3 rs r3 eb fun σv' rs' ewp => ⟨ewp, _, S2, σ1, _, _, W3, rs', f2, fun cc H4 S4 W4 e4 q4 => ?_, fun _ _ _ _ _ _ _ _ q => q.elim⟩
        have h4 : H4 Dl = some (.dT (ks.zip xs)) ∧ S4 Dl = none := (e3.trans e4) Dl _ sD hx
        cases cc with
        | true =>
          refine ⟨_, S4, σ1, _, _, W4, rs'.mono e4, q4, fun y H5 wy S5 W5 r5 e5 q5 => ?_, fun _ _ _ _ _ _ _ _ q => q.elim⟩
          refine ⟨_, S5, σ1, _, _, W5, rs'.mono (e4.trans e5), q5, fun z H6 wz S6 W6 r6 e6 q6 => ?_, fun _ _ _ _ _ _ _ _ q => q.elim⟩
          have h6 := (e5.trans e6) Dl _ h4.2 h4.1
          split at q6
          · rename_i ky eky
            have rl6 := rl.mono (((e3.trans e4).trans e5).trans e6)
            obtain ⟨xs', p1, p2, p3⟩ := put_zip ky hlen rl6 r6
            have c6 : ∀ a o, H6 a = some o → S6 a = none → ¬ (P a ∨ a = Dl) → upd H6 Dl (.dT ((putKs ks ky).zip xs')) a = some o ∧ S6 a = none ∧ ¬ (P a ∨ a = Dl) := fun a o h n q => ⟨by rw [upd_ne fun z => q (.inr z)]; exact h, n, q⟩
            obtain ⟨us6, rfl⟩ : ∃ us6, wy = .tup us6 := by
              cases wy with
              | tup us6 => exact ⟨us6, rfl⟩
              | _ => cases eky
            have r56 := r5.mono e6
            unfold Rp at r56
            obtain ⟨bb, zs, rfl, fz, rz⟩ := r56
            have ez := keysW_V rz eky
            subst ez
            refine ⟨ks.zip xs, ky, bb, rfl, fz.1, h6.1, by rw [zl]; exact q6.1, ?_⟩
            rw [p1]
            refine ⟨S6, putKs ks ky, putWs ks acc ky wz, xs', ⟨fun a o e => ?_, fun a q => ?_⟩, fun a o n h => ?_, upd_same, p2, p3.conv c6, q6.2⟩
            · exact (W6.sim a o e).conv c6 fun u hu => by rw [upd_ne fun z => by rw [z, h6.2] at e; cases e]; exact hu
            · by_cases z : a = Dl
              · rw [z]; exact ⟨h6.2, _, upd_same⟩
              · obtain ⟨h1, u, h2⟩ := W6.hid a q
                exact ⟨h1, u, by rw [upd_ne z]; exact h2⟩
            · obtain ⟨h1, h2⟩ := ((((e2.trans e3).trans e4).trans e5).trans e6) a o n h
              exact ⟨by rw [upd_ne (nD h)]; exact h1, h2⟩
          · exact q6.elim
        | false => exact ⟨S4, ks, acc, xs, W4, (e2.trans e3).trans e4, h4.1, hlen, rl.mono (e3.trans e4), q4⟩
      · exact f2.elim
theorem jd_compT {X : Cx} {E : WX} {kx vx tg iter : Expr} {ifs : List Expr} {scope : Scope} {own : List (Str × Nat)} {pos : Pos} {mi : MI} {g : TG} {b : BW} {mt : MT} {mk mv : ME} (hu : X.A.units + 64 < cLine) (hc : X.calm = true) (hN : X.N.Nodup) (hi : JI X E tg iter mi) (ok : BlkOk X.N X.env.scope scope own) (hb : Binds1 X.K g (own.map (·.2)) b)
    (hg : ∀ (s : Shared) (H : Hp) (C : Addr) (cl : List (Str × Addr)) (fp : List Addr), PG (X.blk s H scope (compEnvC scope cl C X.env) fp) tg g)
    (ht : ∀ (s : Shared) (H : Hp) (C : Addr) (cl : List (Str × Addr)) (fp : List Addr), JTs (X.blk s H scope (compEnvC scope cl C X.env) fp) (fun _ _ _ _ => False) ifs mt)
    (hk : ∀ (s : Shared) (H : Hp) (C : Addr) (cl : List (Str × Addr)) (fp : List Addr), JE (X.blk s H scope (compEnvC scope cl C X.env) fp) (fun _ _ _ _ => False) kx mk)
    (he : ∀ (s : Shared) (H : Hp) (C : Addr) (cl : List (Str × Addr)) (fp : List Addr), JE (X.blk s H scope (compEnvC scope cl C X.env) fp) (fun _ _ _ _ => False) vx mv)
    (hs : ∀ x, foldedSetIterable iter X.env x = pure x := by intro _; rfl) : JDT X E (.DictComp kx vx [⟨tg, iter, ifs, 0⟩] scope pos) (mDcompT mi b mt mk mv (own.map (·.2))) :=
  PE.weak (pe_dct (tt := rdT X.K (fun _ _ _ _ => False) mt) (tk := rdE X.K (fun _ _ _ _ => False) mk) (tv := rdE X.K (fun _ _ _ _ => False) mv) hu hc hN hi ok hg ht hk he hs) fun _ _ _ q => dcomp_weakT hb q
/-- the turns of a dict comprehension -/
def dcompWK (b : BW) (mt : MT) (mk mv : ME) (σ : Env) (vs : List Nat) (gd : Store → Prop) (Q : List (Key) → List Dt → Store → Prop) : List Dt → List (Key) → List Dt → Store → Prop
  | [], ks, acc, S => gd S ∧ Q ks acc S
  | w :: ws, ks, acc, S => gd S ∧ match b w (wipeW σ vs) with
    | some σ1 => mt σ1 S (fun c S2 => br c (mk σ1 S2 (fun x S3 => mv σ1 S3 (fun y S4 => match keyW x with
        | some k => ks.length < sizeLine ∧ dcompWK b mt mk mv σ vs gd Q ws (putKs ks k) (putWs ks acc k y) S4
        | none => False) (fun _ _ => False)) (fun _ _ => False)) (dcompWK b mt mk mv σ vs gd Q ws ks acc S2)) (fun _ _ => False)
    | none => False
def mDcompK (mi : MI) (b : BW) (mt : MT) (mk mv : ME) (vs : List Nat) : MD := fun σ S Q Ex => mi σ S (fun ws gd S1 => dcompWK b mt mk mv σ vs gd Q ws [] [] S1) Ex
theorem dcomp_weakK {K : Frg} {E : WX} {mi : MI} {g : TG} {b : BW} {mt : MT} {mk mv : ME} {vs : List Nat} (hb : Binds1 K g vs b) {σv : L2.St} {H : Hp} {Qv : VK} (h : rdD K E (mDcompK mi b mt mk mv vs) σv H Qv) :
    tDc (rdI K E mi) g (rdT K (fun _ _ _ _ => False) mt) (rdE K (fun _ _ _ _ => False) mk) (rdE K (fun _ _ _ _ => False) mv) vs σv H Qv := by
  obtain ⟨P, S, σ, Q, Ex, W, r, m, nl, nx⟩ := h
  refine ⟨P, S, σ, _, Ex, W, r, m, fun J H1 ws gd S1 W1 e1 dl m1 => ?_, nx⟩
  intro Dl hD
  have hp : ∀ b, (P b ∨ b = Dl) → P b ∨ H1 b = none := fun b h => h.imp id fun z => by rw [z]; exact hD
  have nD : ∀ {a o}, H1 a = some o → a ≠ Dl := fun h z => by rw [z, hD] at h; cases h
  refine ⟨fun i k H2 => ∃ S2 us ks acc xs, Wd K (fun b => P b ∨ b = Dl) S2 H2 ∧ Evo S1 H1 S2 H2 ∧ H2 Dl = some (.dK (ks.zip xs)) ∧ ks.length = acc.length ∧ RpL K (fun b => P b ∨ b = Dl) S2 H2 acc xs ∧ us = ws.drop i ∧ k = us.length ∧ i ≤ ws.length ∧ dcompWK b mt mk mv σ vs gd Q us ks acc S2,
    ⟨ws.length, S1, ws, [], [], [], hide W1 hD, Evo.new hD, upd_same, rfl, RpL.nil, rfl, rfl, Nat.zero_le _, m1⟩, ?_⟩
  rintro i k H2 ⟨S2, us, ks, acc, xs, W2, e2, hx, hlen, rl, eu, ek, hi, f⟩
  have sD : S2 Dl = none := (W2.hid Dl (.inr rfl)).1
  have zl : (ks.zip xs).length = ks.length := by rw [List.length_zip, ← rl.length, ← hlen, Nat.min_self]
  cases us with
  | nil =>
    unfold dcompWK at f
    have hl : ws.length ≤ i := by
      have := congrArg List.length eu
      simp at this
      omega
    refine .inl ⟨(dl _ S2 H2 i hp W2 e2 f.1).2 hl, ?_⟩
    have ev : Evo S1 (upd H1 Dl (.dK [])) S2 (upd H2 Dl (.dK [])) := fun a o n h => by
      by_cases z : a = Dl
      · subst z
        rw [upd_same] at h ⊢
        exact ⟨h, sD⟩
      · rw [upd_ne z] at h ⊢
        exact e2 a o n h
    have c : ∀ a o, H2 a = some o → S2 a = none → ¬ (P a ∨ a = Dl) → hdel H2 Dl a = some o ∧ S2 a = none ∧ ¬ P a := fun a o h n q => ⟨by unfold hdel; rw [if_neg fun z => q (.inr z)]; exact h, n, fun z => q (.inl z)⟩
    have fr := W1.free hD
    have dn : ∀ {a : Addr}, a ≠ Dl → hdel H2 Dl a = H2 a := fun {a} z => by unfold hdel; rw [if_neg z]
    refine nl Dl (hdel H2 Dl) H2 xs ks acc S2 ⟨fun a o e => ?_, fun a q => ?_⟩ (by unfold hdel; rw [if_pos rfl]) ?_ hlen (rl.conv c) (e1.trans fun a o n h => ?_) f.2
    · exact (W2.sim a o e).conv c fun u hu => by rw [dn fun z => by rw [z, sD] at e; cases e]; exact hu
    · obtain ⟨h1, u, h2⟩ := W2.hid a (.inl q)
      exact ⟨h1, u, by rw [dn fun z => fr.2 (z ▸ q)]; exact h2⟩
    · funext a
      by_cases z : a = Dl
      · rw [z, upd_same]; exact hx
      · rw [upd_ne z, dn z]
    · obtain ⟨h1, h2⟩ := e2 a o n h
      exact ⟨by rw [dn (nD h)]; exact h1, h2⟩
  | cons w us =>
    unfold dcompWK at f
    have ew : ws[i]? = some w := by
      have := congrArg List.head? eu
      rw [List.head?_cons, List.head?_drop] at this
      exact this.symm
    have hil : i < ws.length := (List.getElem?_eq_some_iff.mp ew).1
    have eu2 : us = ws.drop (i + 1) := by
      have := congrArg List.tail eu
      rw [List.tail_cons, List.tail_drop] at this
      exact this
    obtain ⟨hgo, hy⟩ := (dl _ S2 H2 i hp W2 e2 f.1).1 w ew
    refine .inr ⟨hgo, fun H' => ∃ S3 ks' acc' xs', Wd K (fun b => P b ∨ b = Dl) S3 H' ∧ Evo S1 H1 S3 H' ∧ H' Dl = some (.dK (ks'.zip xs')) ∧ ks'.length = acc'.length ∧ RpL K (fun b => P b ∨ b = Dl) S3 H' acc' xs' ∧ dcompWK b mt mk mv σ vs gd Q us ks' acc' S3, fun H' hN => ?_, fun x H' hx' => ?_⟩
    · obtain ⟨S3, ks', acc', xs', W3, e3, h3, l3, rl3, f3⟩ := hN
      exact ⟨us.length, by rw [ek, List.length_cons]; omega, S3, us, ks', acc', xs', W3, e3, h3, l3, rl3, eu2, rfl, hil, f3⟩
    · obtain ⟨W3, e3, r3⟩ := hy x H' hx'
      have f2 := f.2
      split at f2
      · rename_i σ1 eb
        have rs : RpS K (fun b => P b ∨ b = Dl) S2 H' σ σv := ⟨r.1, fun j z q => by
          obtain ⟨v, a, b⟩ := (r.mono e1).2 j z q
          exact ⟨v, a, rp_live hp (e2.trans e3) b⟩⟩
        refine hb _ S2 H' w x σ σ1 σv _ W3 rs r3 eb fun σv' rs' ewp => ⟨ewp, _, S2, σ1, _, _, W3, rs', f2, fun cc H4 S4 W4 e4 q4 => ?_, fun _ _ _ _ _ _ _ _ q => q.elim⟩
        have h4 : H4 Dl = some (.dK (ks.zip xs)) ∧ S4 Dl = none := (e3.trans e4) Dl _ sD hx
        cases cc with
        | true =>
          refine ⟨_, S4, σ1, _, _, W4, rs'.mono e4, q4, fun y H5 wy S5 W5 r5 e5 q5 => ?_, fun _ _ _ _ _ _ _ _ q => q.elim⟩
          refine ⟨_, S5, σ1, _, _, W5, rs'.mono (e4.trans e5), q5, fun z H6 wz S6 W6 r6 e6 q6 => ?_, fun _ _ _ _ _ _ _ _ q => q.elim⟩
          have h6 := (e5.trans e6) Dl _ h4.2 h4.1
          split at q6
          · rename_i ky eky
            have rl6 := rl.mono (((e3.trans e4).trans e5).trans e6)
            obtain ⟨xs', p1, p2, p3⟩ := put_zip ky hlen rl6 r6
            have c6 : ∀ a o, H6 a = some o → S6 a = none → ¬ (P a ∨ a = Dl) → upd H6 Dl (.dK ((putKs ks ky).zip xs')) a = some o ∧ S6 a = none ∧ ¬ (P a ∨ a = Dl) := fun a o h n q => ⟨by rw [upd_ne fun z => q (.inr z)]; exact h, n, q⟩
            have ez := keyW_V (r5.mono e6) eky
            refine ⟨ks.zip xs, ky, ez, h6.1, by rw [zl]; exact q6.1, ?_⟩
            rw [p1]
            refine ⟨S6, putKs ks ky, putWs ks acc ky wz, xs', ⟨fun a o e => ?_, fun a q => ?_⟩, fun a o n h => ?_, upd_same, p2, p3.conv c6, q6.2⟩
            · exact (W6.sim a o e).conv c6 fun u hu => by rw [upd_ne fun z => by rw [z, h6.2] at e; cases e]; exact hu
            · by_cases z : a = Dl
              · rw [z]; exact ⟨h6.2, _, upd_same⟩
              · obtain ⟨h1, u, h2⟩ := W6.hid a q
                exact ⟨h1, u, by rw [upd_ne z]; exact h2⟩
            · obtain ⟨h1, h2⟩ := ((((e2.trans e3).trans e4).trans e5).trans e6) a o n h
              exact ⟨by rw [upd_ne (nD h)]; exact h1, h2⟩
          · exact q6.elim
        | false => exact ⟨S4, ks, acc, xs, W4, (e2.trans e3).trans e4, h4.1, hlen, rl.mono (e3.trans e4), q4⟩
      · exact f2.elim
theorem jd_compK {X : Cx} {E : WX} {kx vx tg iter : Expr} {ifs : List Expr} {scope : Scope} {own : List (Str × Nat)} {pos : Pos} {mi : MI} {g : TG} {b : BW} {mt : MT} {mk mv : ME} (hu : X.A.units + 64 < cLine) (hc : X.calm = true) (hN : X.N.Nodup) (hi : JI X E tg iter mi) (ok : BlkOk X.N X.env.scope scope own) (hb : Binds1 X.K g (own.map (·.2)) b)
    (hg : ∀ (s : Shared) (H : Hp) (C : Addr) (cl : List (Str × Addr)) (fp : List Addr), PG (X.blk s H scope (compEnvC scope cl C X.env) fp) tg g)
    (ht : ∀ (s : Shared) (H : Hp) (C : Addr) (cl : List (Str × Addr)) (fp : List Addr), JTs (X.blk s H scope (compEnvC scope cl C X.env) fp) (fun _ _ _ _ => False) ifs mt)
    (hk : ∀ (s : Shared) (H : Hp) (C : Addr) (cl : List (Str × Addr)) (fp : List Addr), JE (X.blk s H scope (compEnvC scope cl C X.env) fp) (fun _ _ _ _ => False) kx mk)
    (he : ∀ (s : Shared) (H : Hp) (C : Addr) (cl : List (Str × Addr)) (fp : List Addr), JE (X.blk s H scope (compEnvC scope cl C X.env) fp) (fun _ _ _ _ => False) vx mv)
    (hs : ∀ x, foldedSetIterable iter X.env x = pure x := by intro _; rfl) : JD X E (.DictComp kx vx [⟨tg, iter, ifs, 0⟩] scope pos) (mDcompK mi b mt mk mv (own.map (·.2))) :=
  PE.weak (pe_dc (tt := rdT X.K (fun _ _ _ _ => False) mt) (tk := rdE X.K (fun _ _ _ _ => False) mk) (tv := rdE X.K (fun _ _ _ _ => False) mv) hc hN hi ok hg ht hk he hs) fun _ _ _ q => dcomp_weakK hb q
end Dn

/-! rules by typed items; floors -/
namespace Dn
open PySem PySem.Spec PyProof.Rows L2
/-- a dict of the store that is changed no more -/
theorem Wk.freezeK {S : Store} {a : Addr} {ks : List Key} {ws : List Dt} (h : S a = some (.dK ks ws)) : Wk (.ref a) S (.dK ks ws) (sdel S a) := ⟨sub_sdel, fun K P H v W r => by
  unfold Rp at r ⊢
  obtain ⟨xs, e, hl, rl⟩ := W.sim a _ h
  exact ⟨a, xs, r, ⟨e, by unfold sdel; rw [if_pos rfl], W.nohid h⟩, hl, rl.sub sub_sdel⟩⟩
theorem clo.frzL {Q : Dt → Store → Prop} {S : Store} {a : Addr} {ws : List Dt} (hn : S a = none) (h : Q (.lst ws) S) : clo Q (.ref a) (sup S a (.lst ws)) :=
  clo.wk (w' := .lst ws) (S' := S) h (by have := Wk.freeze (S := sup S a (.lst ws)) (a := a) sup_same; rwa [sdel_sup hn] at this)
theorem clo.frzK {Q : Dt → Store → Prop} {S : Store} {a : Addr} {ks : List Key} {ws : List Dt} (hn : S a = none) (h : Q (.dK ks ws) S) : clo Q (.ref a) (sup S a (.dK ks ws)) :=
  clo.wk (w' := .dK ks ws) (S' := S) h (by have := Wk.freezeK (S := sup S a (.dK ks ws)) (a := a) sup_same; rwa [sdel_sup hn] at this)
theorem lsv_at {S : Store} {a : Addr} {ws : List Dt} (h : S a = some (.lst ws)) : lsv S (.ref a) = some ws := by
  show (match S a with | some (.lst ws) => some ws | _ => none) = _
  rw [h]
theorem plv_at {S : Store} {a : Addr} {ws : List Dt} (h : S a = some (.lst ws)) : plv S (.ref a) = some ws := by
  show (match S a with | some (.lst ws) => some ws | _ => none) = _
  rw [h]
theorem tyW_at {S : Store} {a : Addr} {ws : List Dt} (h : S a = some (.lst ws)) : tyW "list" S (.ref a) = true := by
  show (lsv S (.ref a)).isSome = true
  rw [lsv_at h]
  rfl
theorem dlook_at {S : Store} {a : Addr} {ks : List Key} {ws : List Dt} {w : Dt} (h : S a = some (.dK ks ws)) : dlook S (.ref a) w = (keyW w).map (lkW ks ws) := by
  show (match S a with | some (.dK ks ws) => (keyW w).map (lkW ks ws) | some (.dT ks ws) => (tkeyW w).map (lkW ks ws) | _ => none) = _
  rw [h]
theorem clo_sub {Q : Dt → Store → Prop} {w : Dt} {S S' : Store} (h : clo Q w S') (s : Sub S' S) : clo Q w S := by
  unfold clo at h ⊢
  obtain ⟨w2, S2, k, q⟩ := h
  exact ⟨w2, S2, (Wk.sub s).trans k, q⟩
/-! ### name = [..] on one line, the name a plain local -/
section
variable {X : Cx} {E : WX}
theorem frz_weak {m : ML} {σv : L2.St} {H : Hp} {Qv : VK} (q : rdE X.K E (mFrz m) σv H Qv) : rdL X.K E m σv H Qv := by
  obtain ⟨P, S, σ, Q, Ex, W, r, m, nq, nx⟩ := q
  refine ⟨P, S, σ, _, Ex, W, r, m, fun p H' H1 xs ws S' W' hp e1 rl ev q => ?_, nx⟩
  subst e1
  refine nq (.ref p) _ (.lst ws) S' (W'.new hp) ?_ (ev.trans (Evo.new hp)) q
  unfold Rp
  exact ⟨p, xs, rfl, Fz.new W' hp, rl.mono (Evo.new hp)⟩
theorem ref_weak {m : ML} {σv : L2.St} {H : Hp} {Qv : VK} (q : rdE X.K E (mRef m) σv H Qv) : rdL X.K E m σv H Qv := by
  obtain ⟨P, S, σ, Q, Ex, W, r, m, nq, nx⟩ := q
  refine ⟨P, S, σ, _, Ex, W, r, m, fun p H' H1 xs ws S' W' hp e1 rl ev q => ?_, nx⟩
  subst e1
  have fr := W'.free hp
  exact nq (.ref p) _ (.ref p) (sup S' p (.lst ws)) (W'.put fr.2 (fun _ => hp) ⟨xs, upd_same, rl.mono (Evo.alloc hp)⟩) rpRef (ev.trans (Evo.alloc hp)) (q p fr.1)
theorem js_lcF {i : Nat} {y : Str} {py : Pos} {elt tg iter : Expr} {ifs : List Expr} {scope : Scope} {own : List (Str × Nat)} {pos spos : Pos} {mi : MI} {g : TG} {b : BW} {mt : MT} {me : ME} (hc : X.calm = true) (hN : X.N.Nodup) (hy : X.N[i]? = some y) (hyl : X.env.scope.names.lookup y = some .local) (hi : JI X E tg iter mi) (ok : BlkOk X.N X.env.scope scope own) (hb : Binds1 X.K g (own.map (·.2)) b)
    (hg : ∀ (s : Shared) (H : Hp) (C : Addr) (cl : List (Str × Addr)) (fp : List Addr), PG (X.blk s H scope (compEnvC scope cl C X.env) fp) tg g)
    (ht : ∀ (s : Shared) (H : Hp) (C : Addr) (cl : List (Str × Addr)) (fp : List Addr), JTs (X.blk s H scope (compEnvC scope cl C X.env) fp) (fun _ _ _ _ => False) ifs mt)
    (he : ∀ (s : Shared) (H : Hp) (C : Addr) (cl : List (Str × Addr)) (fp : List Addr), JE (X.blk s H scope (compEnvC scope cl C X.env) fp) (fun _ _ _ _ => False) elt me)
    (hsw : swapsWith (.ListComp elt [⟨tg, iter, ifs, 0⟩] scope pos) (some (.Name y py)) spos.line X.env = pure true := by rfl)
    (hs : ∀ x, foldedSetIterable iter X.env x = pure x := by intro _; rfl) : JS X E (.Assign [.Name y py] (.ListComp elt [⟨tg, iter, ifs, 0⟩] scope pos) spos) (mSet i (mFrz (mComp mi b mt me (own.map (·.2))))) :=
  PS.weak (ps_setLc (tt := rdT X.K (fun _ _ _ _ => False) mt) (te := rdE X.K (fun _ _ _ _ => False) me) hc hN hy hyl hsw hi ok hg ht he hs) fun σv H D q => by
    obtain ⟨P, S, σ, Dw, W, r, m, d⟩ := q
    exact comp_weak hb (frz_weak (X := X) (E := E) ⟨P, S, σ, _, _, W, r, m, fun v H1 w S1 W1 r1 e1 m1 => d.nx _ _ _ _ W1 ((r.mono e1).set r1) e1 m1, d.ex.at r⟩)
theorem js_lcR {i : Nat} {y : Str} {py : Pos} {elt tg iter : Expr} {ifs : List Expr} {scope : Scope} {own : List (Str × Nat)} {pos spos : Pos} {mi : MI} {g : TG} {b : BW} {mt : MT} {me : ME} (hc : X.calm = true) (hN : X.N.Nodup) (hy : X.N[i]? = some y) (hyl : X.env.scope.names.lookup y = some .local) (hi : JI X E tg iter mi) (ok : BlkOk X.N X.env.scope scope own) (hb : Binds1 X.K g (own.map (·.2)) b)
    (hg : ∀ (s : Shared) (H : Hp) (C : Addr) (cl : List (Str × Addr)) (fp : List Addr), PG (X.blk s H scope (compEnvC scope cl C X.env) fp) tg g)
    (ht : ∀ (s : Shared) (H : Hp) (C : Addr) (cl : List (Str × Addr)) (fp : List Addr), JTs (X.blk s H scope (compEnvC scope cl C X.env) fp) (fun _ _ _ _ => False) ifs mt)
    (he : ∀ (s : Shared) (H : Hp) (C : Addr) (cl : List (Str × Addr)) (fp : List Addr), JE (X.blk s H scope (compEnvC scope cl C X.env) fp) (fun _ _ _ _ => False) elt me)
    (hsw : swapsWith (.ListComp elt [⟨tg, iter, ifs, 0⟩] scope pos) (some (.Name y py)) spos.line X.env = pure true := by rfl)
    (hs : ∀ x, foldedSetIterable iter X.env x = pure x := by intro _; rfl) : JS X E (.Assign [.Name y py] (.ListComp elt [⟨tg, iter, ifs, 0⟩] scope pos) spos) (mSet i (mRef (mComp mi b mt me (own.map (·.2))))) :=
  PS.weak (ps_setLc (tt := rdT X.K (fun _ _ _ _ => False) mt) (te := rdE X.K (fun _ _ _ _ => False) me) hc hN hy hyl hsw hi ok hg ht he hs) fun σv H D q => by
    obtain ⟨P, S, σ, Dw, W, r, m, d⟩ := q
    exact comp_weak hb (ref_weak (X := X) (E := E) ⟨P, S, σ, _, _, W, r, m, fun v H1 w S1 W1 r1 e1 m1 => d.nx _ _ _ _ W1 ((r.mono e1).set r1) e1 m1, d.ex.at r⟩)
end
section
variable {X : Cx} {E : WX}
def mMulL (ma mb : ME) : ML := fun σ S Q Ex => ma σ S (fun x S1 => mb σ S1 (fun y S2 => match plv S2 x, y with
  | some a, .int k => 0 ≤ k ∧ k < 2 ^ 63 ∧ a.length * k.toNat ≤ sizeLine ∧ Q (List.replicate k.toNat a).flatten S2
  | _, _ => False) Ex) Ex
theorem jl_mul {a b : Expr} {ma mb : ME} {pos : Pos} (ha : JE X E a ma) (hb : JE X E b mb) : JL X E (.BinOp a .Mult b pos) (mMulL ma mb) := PE.weak (pe_op op_rep ha hb) fun σv H Qv q => by
  obtain ⟨P, S, σ, Q, Ex, W, r, m, nl, nx⟩ := q
  refine ⟨P, S, σ, _, Ex, W, r, m, fun v H1 x S1 W1 r1 e1 m1 => ?_, nx⟩
  refine ⟨P, S1, σ, _, Ex, W1, r.mono e1, m1, fun u H2 y S2 W2 r2 e2 m2 => ?_, nx.after e1⟩
  dsimp only at m2
  split at m2
  · rename_i as k ea
    obtain ⟨p, xs, rfl, h1, rl1⟩ := plv_of W2 (r1.mono e2) ea
    rw [rp_int] at r2
    obtain ⟨g1, g2, g3, g4⟩ := m2
    exact ⟨p, _, xs, rfl, r2, h1, by omega, g2, by rw [← rl1.length]; exact g3, fun p hp => nl p H2 _ _ _ S2 W2 hp rfl (rl1.flat _) (e1.trans e2) g4⟩
  · exact m2.elim
end
/-! ### comprehensions by typed items -/
theorem comp_xs {α : Type} {b : BW} {mt : MT} {me : ME} {σ : Env} {vs : List Nat} {gd : Store → Prop} {Q : List Dt → Store → Prop} {S : Store} (F : α → Dt) (p : α → Bool) (f : α → Dt) (hg : gd S) : ∀ (xs : List α) (acc : List Dt),
    (∀ x ∈ xs, ∃ σ1, b (F x) (wipeW σ vs) = some σ1 ∧ (∀ k : Bool → Store → Prop, k (p x) S → mt σ1 S k (fun _ _ => False)) ∧ (p x = true → ∀ k : Dt → Store → Prop, k (f x) S → me σ1 S k (fun _ _ => False))) →
    acc.length + xs.length ≤ sizeLine → Q (acc ++ (xs.filter p).map f) S → compW b mt me σ vs gd Q (xs.map F) acc S
  | [], acc, _, _, q => by
    rw [List.map_nil]
    unfold compW
    rw [List.filter_nil, List.map_nil, List.append_nil] at q
    exact ⟨hg, q⟩
  | x :: xs, acc, h, hl, q => by
    rw [List.map_cons]
    unfold compW
    refine ⟨hg, ?_⟩
    obtain ⟨σ1, e, ht, hm⟩ := h x List.mem_cons_self
    rw [e]
    rw [List.length_cons] at hl
    refine ht _ ?_
    by_cases hp : p x = true
    · rw [hp]
      refine hm hp _ ⟨by omega, comp_xs F p f hg xs (acc ++ [f x]) (fun w' h' => h w' (List.mem_cons_of_mem _ h')) (by rw [List.length_append, List.length_singleton]; omega) ?_⟩
      rw [List.filter_cons_of_pos hp] at q
      rw [List.append_assoc]
      exact q
    · rw [Bool.not_eq_true] at hp
      rw [hp]
      refine comp_xs F p f hg xs acc (fun w' h' => h w' (List.mem_cons_of_mem _ h')) (by omega) ?_
      rw [List.filter_cons_of_neg (by rw [hp]; exact Bool.false_ne_true)] at q
      exact q
theorem comp_all {α : Type} {b : BW} {me : ME} {σ : Env} {vs : List Nat} {gd : Store → Prop} {Q : List Dt → Store → Prop} {S : Store} (F : α → Dt) (f : α → Dt) (xs : List α) (hg : gd S)
    (h : ∀ x ∈ xs, ∃ σ1, b (F x) (wipeW σ vs) = some σ1 ∧ ∀ k : Dt → Store → Prop, k (f x) S → me σ1 S k (fun _ _ => False)) (hl : xs.length ≤ sizeLine) (q : Q (xs.map f) S) : compW b mYes me σ vs gd Q (xs.map F) [] S :=
  comp_xs F (fun _ => true) f hg xs [] (fun x hx => by obtain ⟨σ1, e, k⟩ := h x hx; exact ⟨σ1, e, fun k q => q, fun _ => k⟩) (by rw [List.length_nil]; omega) (by rw [List.filter_eq_self.mpr (fun _ _ => rfl)]; exact q)
theorem memK_false {κ : Type} [DecidableEq κ] {ks : List κ} {k : κ} (h : k ∉ ks) : memK ks k = false := by
  unfold memK
  rw [List.any_eq_false]
  intro x hx
  simp only [decide_eq_true_eq]
  exact fun z => h (z ▸ hx)
theorem memK_true {κ : Type} [DecidableEq κ] {ks : List κ} {k : κ} (h : k ∈ ks) : memK ks k = true := by
  unfold memK
  rw [List.any_eq_true]
  exact ⟨k, h, decide_eq_true rfl⟩
theorem dcomp_xs {α : Type} {b : BW} {mk mv : ME} {σ : Env} {vs : List Nat} {gd : Store → Prop} {Q : List (List Key) → List Dt → Store → Prop} {S : Store} (F : α → Dt) (kf : α → Dt) (kk : α → List Key) (vf : α → Dt) (hg : gd S) (hk : ∀ x, tkeyW (kf x) = some (kk x)) : ∀ (xs : List α) (ks : List (List Key)) (us : List Dt),
    (∀ x ∈ xs, ∃ σ1, b (F x) (wipeW σ vs) = some σ1 ∧ (∀ k : Dt → Store → Prop, k (kf x) S → mk σ1 S k (fun _ _ => False)) ∧ (∀ k : Dt → Store → Prop, k (vf x) S → mv σ1 S k (fun _ _ => False))) →
    (ks ++ xs.map kk).Nodup → ks.length + xs.length ≤ sizeLine → Q (ks ++ xs.map kk) (us ++ xs.map vf) S → dcompWT b mYes mk mv σ vs gd Q (xs.map F) ks us S
  | [], ks, us, _, _, _, q => by
    rw [List.map_nil]
    unfold dcompWT
    rw [List.map_nil, List.map_nil, List.append_nil, List.append_nil] at q
    exact ⟨hg, q⟩
  | x :: xs, ks, us, h, nd, hl, q => by
    rw [List.map_cons]
    unfold dcompWT
    refine ⟨hg, ?_⟩
    obtain ⟨σ1, e, h1, h2⟩ := h x List.mem_cons_self
    rw [e]
    show mYes σ1 S _ _
    unfold mYes
    refine h1 _ (h2 _ ?_)
    rw [hk x]
    rw [List.length_cons] at hl
    refine ⟨by omega, ?_⟩
    have nk : kk x ∉ ks := fun z => by
      rw [List.map_cons, List.nodup_append] at nd
      exact nd.2.2 _ z _ List.mem_cons_self rfl
    have e1 : putKs ks (kk x) = ks ++ [kk x] := by unfold putKs; rw [memK_false nk]; rfl
    have e2 : putWs ks us (kk x) (vf x) = us ++ [vf x] := by unfold putWs; rw [memK_false nk]; rfl
    rw [e1, e2]
    refine dcomp_xs F kf kk vf hg hk xs _ _ (fun w' h' => h w' (List.mem_cons_of_mem _ h')) (by rw [List.append_assoc]; exact nd) (by rw [List.length_append, List.length_singleton]; omega) ?_
    rw [List.append_assoc, List.append_assoc]
    exact q
theorem enumW_map {α : Type} (F : α → Dt) : ∀ (n : Nat) (xs : List α), enumW n (xs.map F) = (xs.zipIdx n).map fun p => .tup [.int (p.2 : Nat), F p.1]
  | _, [] => rfl
  | n, x :: xs => by
    rw [List.map_cons, enumW, enumW_map F (n + 1) xs, List.zipIdx_cons, List.map_cons]
theorem rangeW_map : ∀ (n a : Nat), rangeW (a : Int) n = (List.range' a n).map fun i => .int (i : Nat)
  | 0, a => rfl
  | n + 1, a => by
    rw [rangeW, List.range'_succ, List.map_cons]
    have := rangeW_map n (a + 1)
    rw [← this]
    rfl
theorem rangeW_0 (n : Nat) : rangeW 0 n = (List.range n).map fun i => .int (i : Nat) := by
  rw [List.range_eq_range']
  exact rangeW_map n 0
/-! ### texts of signs -/
def rowS (r : List Nat) : Dt := .str ⟨r.toArray⟩
theorem rowS_app (r : List Nat) (c : Nat) : ((⟨r.toArray⟩ : Str) ++ (⟨#[c]⟩ : Str)) = ⟨(r ++ [c]).toArray⟩ := by
  show Str.append _ _ = _
  unfold Str.append
  congr 1
  simp
theorem rowS_cons (c : Nat) (r : List Nat) : ((⟨#[c]⟩ : Str) ++ (⟨r.toArray⟩ : Str)) = ⟨(c :: r).toArray⟩ := by
  show Str.append _ _ = _
  unfold Str.append
  congr 1
  simp
theorem ixN_zero {n : Nat} (h : 0 < n) : ixN n 0 = some 0 := by
  unfold ixN
  rw [if_pos (by omega), if_pos (by omega)]
  rfl
theorem rowS_len (r : List Nat) : (⟨r.toArray⟩ : Str).length = r.length := by
  show r.toArray.size = _
  exact List.size_toArray
theorem str_of (z : Str) : z = ⟨z.cps.toList.toArray⟩ := by
  cases z
  simp
theorem str_one {c d : Nat} : ((⟨#[c]⟩ : Str) = ⟨#[d]⟩) ↔ c = d := by
  constructor
  · intro h
    have := congrArg (fun z : Str => z.cps.toList) h
    simpa using this
  · intro h
    rw [h]
theorem strH : ("H" : Str) = ⟨#[72]⟩ := by decide +kernel
theorem strS : ("S" : Str) = ⟨#[83]⟩ := by decide +kernel
theorem strDot : ("." : Str) = ⟨#[46]⟩ := by decide +kernel
theorem strWall : ("#" : Str) = ⟨#[35]⟩ := by decide +kernel
theorem cutS_row (r : List Nat) (lo hi : Option Int) : cutS ⟨r.toArray⟩ lo hi = ⟨(cutW r lo hi).toArray⟩ := by
  unfold cutS cutW
  rw [rowS_len]
theorem getD_get {α : Type} {xs : List α} {i : Nat} {d : α} (h : i < xs.length) : xs.getD i d = xs[i] := by
  rw [List.getD_eq_getElem?_getD, List.getElem?_eq_getElem h]
  rfl
theorem getD_mem {α : Type} {xs : List α} {i : Nat} {d : α} (h : i < xs.length) : xs.getD i d ∈ xs := by
  rw [getD_get h]
  exact List.getElem_mem _
theorem atI_map {α β : Type} {f : α → β} {xs : List α} {c : Nat} (d : α) (h : c < xs.length) : atI (xs.map f) (c : Int) = some (f (xs.getD c d)) := by
  unfold atI ixN
  rw [if_pos (by omega), if_pos (by rw [List.length_map]; omega), Int.toNat_natCast]
  show (xs.map f)[c]? = _
  rw [List.getElem?_map, List.getElem?_eq_getElem h, getD_get h]
  rfl
/-! ### floors -/
abbrev Rws := List (List Nat)
def wideF (R : Rws) : Nat := (R.headD []).length
def isSg (c : Nat) : Bool := c == 46 || c == 35 || c == 72 || c == 83
def homesF (R : Rws) : Nat := (R.map (List.count 72)).sum
structure GoodF (R : Rws) : Prop where
  h1 : 1 ≤ R.length
  h2 : R.length ≤ 12
  wl : ∀ r ∈ R, r.length = wideF R
  w1 : 1 ≤ wideF R
  w2 : wideF R ≤ 12
  sg : ∀ r ∈ R, ∀ c ∈ r, isSg c = true
  o1 : 1 ≤ homesF R
  o2 : homesF R ≤ 6
theorem wide_hd {R : Rws} {n : Nat} (h : 0 < R.length) (hw : ∀ r ∈ R, r.length = n) : wideF R = n := by
  cases R with
  | nil => exact absurd h (by decide)
  | cons r R => exact hw r List.mem_cons_self
theorem zipIdx_eq {α : Type} (d : α) (xs : List α) : xs.zipIdx = (List.range xs.length).map fun i => (xs.getD i d, i) := by
  apply List.ext_getElem
  · rw [List.length_zipIdx, List.length_map, List.length_range]
  · intro i h1 h2
    rw [List.length_zipIdx] at h1
    rw [List.getElem_zipIdx, List.getElem_map, List.getElem_range, getD_get h1, Nat.zero_add]
theorem range_map {α β : Type} (d : α) (xs : List α) (f : α → β) : (List.range xs.length).map (fun i => f (xs.getD i d)) = xs.map f := by
  apply List.ext_getElem
  · rw [List.length_map, List.length_range, List.length_map]
  · intro i h1 h2
    rw [List.length_map] at h2
    rw [List.getElem_map, List.getElem_map, List.getElem_range, getD_get h2]
theorem range_filter {α : Type} (d : α) (xs : List α) (p : α → Bool) : (xs.zipIdx.filter fun q => p q.1).map (·.2) = (List.range xs.length).filter fun i => p (xs.getD i d) := by
  rw [zipIdx_eq d, List.filter_map, List.map_map]
  show List.map id _ = _
  rw [List.map_id]
  rfl
def rowSp (i : Nat) (r : List Nat) : List (Nat × Nat) := (r.zipIdx.filter fun p => !decide (p.1 = 35)).map fun p => (i, p.2)
def spotsF (R : Rws) : List (Nat × Nat) := R.zipIdx.flatMap fun p => rowSp p.2 p.1
def spD (p : Nat × Nat) : Dt := .tup [.int p.1, .int p.2]
def lotW (l : List Nat) : List Dt := l.map fun c => .int (c : Nat)
def signF (R : Rws) (p : Nat × Nat) : Nat := (R.getD p.1 []).getD p.2 0
def ofF (R : Rws) (s : Nat) : List Nat := ((spotsF R).zipIdx.filter fun p => decide (signF R p.1 = s)).map (·.2)
theorem rowSp_eq (i : Nat) (r : List Nat) : rowSp i r = ((List.range r.length).filter fun j => !decide (r.getD j 0 = 35)).map fun j => (i, j) := by
  unfold rowSp
  rw [← range_filter 0 r (fun c => !decide (c = 35)), List.map_map]
  rfl
theorem spotsF_eq (R : Rws) : spotsF R = (List.range R.length).flatMap fun i => rowSp i (R.getD i []) := by
  unfold spotsF
  rw [zipIdx_eq [], List.flatMap_map]
theorem mem_rowSp {i : Nat} {r : List Nat} {p : Nat × Nat} : p ∈ rowSp i r ↔ p.1 = i ∧ p.2 < r.length ∧ r.getD p.2 0 ≠ 35 := by
  rw [rowSp_eq, List.mem_map]
  constructor
  · rintro ⟨j, hj, rfl⟩
    rw [List.mem_filter, List.mem_range] at hj
    exact ⟨rfl, hj.1, by simpa using hj.2⟩
  · rintro ⟨rfl, h1, h2⟩
    exact ⟨p.2, by rw [List.mem_filter, List.mem_range]; exact ⟨h1, by simpa using h2⟩, rfl⟩
theorem mem_spots {R : Rws} {p : Nat × Nat} : p ∈ spotsF R ↔ p.1 < R.length ∧ p.2 < (R.getD p.1 []).length ∧ signF R p ≠ 35 := by
  rw [spotsF_eq, List.mem_flatMap]
  constructor
  · rintro ⟨i, hi, h⟩
    rw [mem_rowSp] at h
    obtain ⟨rfl, h1, h2⟩ := h
    exact ⟨List.mem_range.mp hi, h1, h2⟩
  · rintro ⟨h1, h2, h3⟩
    exact ⟨p.1, List.mem_range.mpr h1, mem_rowSp.mpr ⟨rfl, h2, h3⟩⟩
theorem spots_nodup (R : Rws) : (spotsF R).Nodup := by
  rw [spotsF_eq]
  unfold List.Nodup
  rw [List.pairwise_flatMap]
  refine ⟨fun i _ => ?_, ?_⟩
  · rw [rowSp_eq, List.pairwise_map]
    exact (List.nodup_range.filter _).imp fun h z => h (Prod.mk.inj z).2
  · exact List.nodup_range.imp fun h x hx y hy z => by
      rw [mem_rowSp] at hx hy
      exact h (by rw [← hx.1, ← hy.1, z])
theorem spots_len {R : Rws} (h : GoodF R) : (spotsF R).length ≤ 144 := by
  rw [spotsF_eq, List.length_flatMap]
  have : ∀ (l : List Nat), (∀ i ∈ l, i < R.length) → (l.map fun i => (rowSp i (R.getD i [])).length).sum ≤ l.length * 12 := by
    intro l
    induction l with
    | nil => intro _; exact Nat.le_refl _
    | cons a l ih =>
      intro hl
      rw [List.map_cons, List.sum_cons, List.length_cons]
      have h1 := ih fun i hi => hl i (List.mem_cons_of_mem _ hi)
      have h2 : (rowSp a (R.getD a [])).length ≤ 12 := by
        rw [rowSp_eq, List.length_map]
        refine Nat.le_trans (List.length_filter_le _ _) ?_
        rw [List.length_range, h.wl _ (getD_mem (hl a List.mem_cons_self))]
        exact h.w2
      omega
  have := this (List.range R.length) fun i hi => List.mem_range.mp hi
  rw [List.length_range] at this
  have := h.h2
  omega
/-! neighbours -/
def adjP (p q : Nat × Nat) : Bool := decide ((((q.1 : Int) - p.1).natAbs : Int) + (((q.2 : Int) - p.2).natAbs : Int) = 1)
def tieF (sp : List (Nat × Nat)) (p : Nat × Nat) : List Nat := (List.range sp.length).filter fun o => adjP p (sp.getD o (0, 0))
def tiesF (sp : List (Nat × Nat)) : List (List Nat) := sp.map (tieF sp)
def kyP (p : Nat × Nat) : List Key := [.inl (p.1 : Nat), .inl (p.2 : Nat)]
def kyI (q : Int × Int) : List Key := [.inl q.1, .inl q.2]
def lookP : List (Nat × Nat) → Nat → Int × Int → Option Nat
  | [], _, _ => none
  | p :: sp, n, q => if (p.1 : Int) = q.1 ∧ (p.2 : Int) = q.2 then some n else lookP sp (n + 1) q
theorem kyP_inj {p q : Nat × Nat} (h : kyP p = kyP q) : p = q := by
  unfold kyP at h
  have h1 := List.cons.inj h
  have h2 := List.cons.inj h1.2
  have a := Sum.inl.inj h1.1
  have b := Sum.inl.inj h2.1
  exact Prod.ext (by omega) (by omega)
theorem lkW_look : ∀ (sp : List (Nat × Nat)) (n : Nat) (q : Int × Int), lkW (sp.map kyP) ((sp.zipIdx n).map fun p => .int (p.2 : Nat)) (kyI q) = (lookP sp n q).map fun i => .int (i : Nat)
  | [], n, q => rfl
  | p :: sp, n, q => by
    rw [List.map_cons, List.zipIdx_cons, List.map_cons]
    unfold lkW lookP
    by_cases h : (p.1 : Int) = q.1 ∧ (p.2 : Int) = q.2
    · rw [if_pos h, if_pos (by unfold kyP kyI; rw [h.1, h.2])]
      rfl
    · rw [if_neg h, if_neg (fun z => h (by unfold kyP kyI at z; simp at z; exact z)), lkW_look sp (n + 1) q]
theorem lookP_some : ∀ {sp : List (Nat × Nat)} {n i : Nat} {q : Int × Int}, lookP sp n q = some i → n ≤ i ∧ i < n + sp.length ∧ ((sp.getD (i - n) (0, 0)).1 : Int) = q.1 ∧ ((sp.getD (i - n) (0, 0)).2 : Int) = q.2
  | [], n, i, q, h => by cases h
  | p :: sp, n, i, q, h => by
    unfold lookP at h
    by_cases hc : (p.1 : Int) = q.1 ∧ (p.2 : Int) = q.2
    · rw [if_pos hc] at h
      cases h
      rw [List.length_cons, Nat.sub_self]
      exact ⟨Nat.le_refl _, by omega, hc.1, hc.2⟩
    · rw [if_neg hc] at h
      have ih := lookP_some h
      have e : i - n = (i - (n + 1)) + 1 := by omega
      rw [List.length_cons, e, List.getD_cons_succ]
      exact ⟨by omega, by omega, ih.2.2⟩
theorem lookP_of : ∀ {sp : List (Nat × Nat)} {n k : Nat}, sp.Nodup → k < sp.length → lookP sp n (((sp.getD k (0, 0)).1 : Nat), ((sp.getD k (0, 0)).2 : Nat)) = some (n + k)
  | p :: sp, n, 0, _, _ => by
    unfold lookP
    rw [List.getD_cons_zero, if_pos ⟨rfl, rfl⟩]
    rfl
  | p :: sp, n, k + 1, nd, h => by
    rw [List.nodup_cons] at nd
    rw [List.length_cons] at h
    unfold lookP
    rw [List.getD_cons_succ, if_neg, lookP_of nd.2 (by omega)]
    · congr 1
      omega
    · intro z
      apply nd.1
      have e : sp.getD k (0, 0) = p := Prod.ext (by have := z.1; dsimp only at this; omega) (by have := z.2; dsimp only at this; omega)
      rw [← e]
      exact getD_mem (by omega)
def aroundP (p : Nat × Nat) : List (Int × Int) := [((p.1 : Int) - 1, (p.2 : Int)), ((p.1 : Int) + 1, (p.2 : Int)), ((p.1 : Int), (p.2 : Int) - 1), ((p.1 : Int), (p.2 : Int) + 1)]
theorem tie_sorted {sp : List (Nat × Nat)} (nd : sp.Nodup) (p : Nat × Nat) : sortZ (((aroundP p).filter fun q => (lookP sp 0 q).isSome).map fun q => (((lookP sp 0 q).getD 0 : Nat) : Int)) = (tieF sp p).map fun c => ((c : Nat) : Int) := by
  refine (sortZ_of ?_ ?_).symm
  · refine (List.perm_ext_iff_of_nodup ?_ ?_).mpr fun a => ?_
    · unfold List.Nodup
      rw [List.pairwise_map]
      exact (List.nodup_range.filter _).imp fun h z => h (by omega)
    · unfold List.Nodup
      rw [List.pairwise_map, List.pairwise_filter]
      have key : ∀ q q' : Int × Int, q ≠ q' → (lookP sp 0 q).isSome = true → (lookP sp 0 q').isSome = true → (((lookP sp 0 q).getD 0 : Nat) : Int) ≠ (((lookP sp 0 q').getD 0 : Nat) : Int) := by
        intro q q' hne h1 h2
        obtain ⟨i, ei⟩ := Option.isSome_iff_exists.mp h1
        obtain ⟨j, ej⟩ := Option.isSome_iff_exists.mp h2
        rw [ei, ej]
        intro z
        have z : (i : Int) = (j : Int) := z
        have z : i = j := by omega
        subst z
        have a := lookP_some ei
        have b := lookP_some ej
        exact hne (Prod.ext (a.2.2.1.symm.trans b.2.2.1) (a.2.2.2.symm.trans b.2.2.2))
      unfold aroundP
      have d1 : ∀ (a b c d : Int), (a ≠ c ∨ b ≠ d) → (a, b) ≠ (c, d) := fun a b c d h z => by
        have := Prod.mk.inj z
        rcases h with h | h
        · exact h this.1
        · exact h this.2
      refine .cons ?_ (.cons ?_ (.cons ?_ (.cons ?_ .nil)))
      · intro q hq
        simp only [List.mem_cons, List.not_mem_nil, or_false] at hq
        rcases hq with rfl | rfl | rfl <;> exact key _ _ (d1 _ _ _ _ (by omega))
      · intro q hq
        simp only [List.mem_cons, List.not_mem_nil, or_false] at hq
        rcases hq with rfl | rfl <;> exact key _ _ (d1 _ _ _ _ (by omega))
      · intro q hq
        simp only [List.mem_cons, List.not_mem_nil, or_false] at hq
        subst hq
        exact key _ _ (d1 _ _ _ _ (by omega))
      · intro q hq
        cases hq
    · rw [List.mem_map, List.mem_map]
      constructor
      · rintro ⟨o, ho, rfl⟩
        unfold tieF at ho
        rw [List.mem_filter, List.mem_range] at ho
        obtain ⟨h1, h2⟩ := ho
        have hl := lookP_of (n := 0) nd h1
        rw [Nat.zero_add] at hl
        refine ⟨(((sp.getD o (0, 0)).1 : Nat), ((sp.getD o (0, 0)).2 : Nat)), ?_, by rw [hl]; rfl⟩
        rw [List.mem_filter]
        refine ⟨?_, by rw [hl]; rfl⟩
        unfold adjP at h2
        rw [decide_eq_true_eq] at h2
        generalize (sp.getD o (0, 0)).1 = x at h2 ⊢
        generalize (sp.getD o (0, 0)).2 = y at h2 ⊢
        unfold aroundP
        simp only [List.mem_cons, List.not_mem_nil, or_false, Prod.mk.injEq]
        omega
      · rintro ⟨q, hq, rfl⟩
        rw [List.mem_filter] at hq
        obtain ⟨h1, h2⟩ := hq
        obtain ⟨i, ei⟩ := Option.isSome_iff_exists.mp h2
        have a := lookP_some ei
        rw [Nat.sub_zero, Nat.zero_add] at a
        refine ⟨i, ?_, by rw [ei]; rfl⟩
        unfold tieF
        rw [List.mem_filter, List.mem_range]
        refine ⟨a.2.1, ?_⟩
        unfold adjP
        rw [decide_eq_true_eq, a.2.2.1, a.2.2.2]
        unfold aroundP at h1
        simp only [List.mem_cons, List.not_mem_nil, or_false] at h1
        rcases h1 with rfl | rfl | rfl | rfl <;> (dsimp only; omega)
  · rw [List.pairwise_map]
    exact (List.pairwise_lt_range.filter _).imp fun h => by omega
theorem adj_abs (p q : Nat × Nat) : adjP p q = decide ((if (q.1 : Int) - p.1 < 0 then -((q.1 : Int) - p.1) else (q.1 : Int) - p.1) + (if (q.2 : Int) - p.2 < 0 then -((q.2 : Int) - p.2) else (q.2 : Int) - p.2) = 1) := by
  unfold adjP
  rw [Bool.eq_iff_iff, decide_eq_true_iff, decide_eq_true_iff]
  omega
theorem tie_at {sp : List (Nat × Nat)} {c : Nat} (h : c < sp.length) : (tiesF sp).getD c [] = tieF sp (sp.getD c (0, 0)) := by
  unfold tiesF
  rw [getD_get (by rw [List.length_map]; exact h), List.getElem_map, getD_get h]
theorem ties_len (sp : List (Nat × Nat)) : (tiesF sp).length = sp.length := List.length_map ..
theorem signs_eq : ((("." : Str) ++ ("#" : Str)) ++ ("H" : Str) ++ ("S" : Str)).cps.toList = [46, 35, 72, 83] := by decide +kernel
theorem isSg_mem (c : Nat) : decide (c ∈ ((("." : Str) ++ ("#" : Str)) ++ ("H" : Str) ++ ("S" : Str)).cps.toList) = isSg c := by
  rw [signs_eq]
  unfold isSg
  rw [Bool.eq_iff_iff]
  simp [or_assoc]
theorem tieF_lt {sp : List (Nat × Nat)} {p : Nat × Nat} {o : Nat} (h : o ∈ tieF sp p) : o < sp.length := by
  unfold tieF at h
  rw [List.mem_filter, List.mem_range] at h
  exact h.1
/-! ### spreading -/
abbrev Ahd := List (Nat × Option Nat)
def optI : Option Nat → Dt
  | none => .non
  | some p => .int (p : Nat)
def ahdK (A : Ahd) : List Key := A.map fun p => .inl ((p.1 : Nat) : Int)
def ahdW (A : Ahd) : List Dt := A.map fun p => optI p.2
def lookA : Ahd → Nat → Option (Option Nat)
  | [], _ => none
  | p :: A, c => if p.1 = c then some p.2 else lookA A c
theorem lkW_ahd : ∀ (A : Ahd) (c : Nat), lkW (ahdK A) (ahdW A) (.inl (c : Int)) = (lookA A c).map optI
  | [], c => rfl
  | p :: A, c => by
    show (if (Sum.inl (p.1 : Int) : Key) = .inl (c : Int) then some (optI p.2) else lkW (ahdK A) (ahdW A) (.inl (c : Int))) = _
    unfold lookA
    by_cases h : p.1 = c
    · rw [if_pos h, if_pos (by rw [h])]
      rfl
    · rw [if_neg h, if_neg (fun z => h (by have := Sum.inl.inj z; omega)), lkW_ahd A c]
theorem dlook_ahd {S : Store} {a : Addr} {A : Ahd} (h : S a = some (.dK (ahdK A) (ahdW A))) (o : Nat) : dlook S (.ref a) (.int (o : Nat)) = some ((lookA A o).map optI) := by
  rw [dlook_at h]
  exact congrArg some (lkW_ahd A o)
theorem dlook_frz {S : Store} {A : Ahd} (o : Nat) : dlook S (.dK (ahdK A) (ahdW A)) (.int (o : Nat)) = some ((lookA A o).map optI) := congrArg some (lkW_ahd A o)
theorem atI_lot {l : List Nat} {c : Nat} (h : c < l.length) : atI (lotW l) (c : Int) = some (.int ((l.getD c 0 : Nat) : Int)) := atI_map 0 h
def hasA (A : Ahd) (c : Nat) : Bool := (lookA A c).isSome
def visit1 (sh : Nat → Bool) (c : Nat) (s : Ahd × List Nat) (o : Nat) : Ahd × List Nat := if hasA s.1 o = false ∧ sh o = false then (s.1 ++ [(o, some c)], s.2 ++ [o]) else s
def visitC (ties : List (List Nat)) (sh : Nat → Bool) (s : Ahd × List Nat) (c : Nat) : Ahd × List Nat := (ties.getD c []).foldl (visit1 sh c) s
def waveF (ties : List (List Nat)) (sh : Nat → Bool) (A : Ahd) (wt : List Nat) : Ahd × List Nat := wt.foldl (visitC ties sh) (A, [])
def spreadG (ties : List (List Nat)) (sh : Nat → Bool) : Nat → Ahd → List Nat → Ahd
  | 0, A, _ => A
  | f + 1, A, wt => if wt = [] then A else spreadG ties sh f (waveF ties sh A wt).1 (waveF ties sh A wt).2
def spreadF (ties : List (List Nat)) (sh : Nat → Bool) (b : Nat) : Ahd := spreadG ties sh (ties.length + 1) [(b, none)] [b]
theorem lookA_app : ∀ (A B : Ahd) (c : Nat), lookA (A ++ B) c = (lookA A c).or (lookA B c)
  | [], B, c => rfl
  | p :: A, B, c => by
    rw [List.cons_append]
    show (if p.1 = c then some p.2 else lookA (A ++ B) c) = (if p.1 = c then some p.2 else lookA A c).or _
    by_cases h : p.1 = c
    · rw [if_pos h, if_pos h]
      rfl
    · rw [if_neg h, if_neg h]
      exact lookA_app A B c
theorem hasA_iff : ∀ {A : Ahd} {c : Nat}, hasA A c = true ↔ c ∈ A.map (·.1)
  | [], c => by simp [hasA, lookA]
  | p :: A, c => by
    have ih := hasA_iff (A := A) (c := c)
    unfold hasA lookA
    by_cases h : p.1 = c
    · rw [if_pos h]
      simp [h]
    · rw [if_neg h, List.map_cons, List.mem_cons]
      exact ih.trans ⟨.inr, fun z => z.resolve_left fun q => h q.symm⟩
theorem nodup_len : ∀ {n : Nat} {l : List Nat}, l.Nodup → (∀ x ∈ l, x < n) → l.length ≤ n
  | 0, [], _, _ => Nat.le_refl _
  | 0, x :: l, _, h => absurd (h x List.mem_cons_self) (Nat.not_lt_zero _)
  | n + 1, l, nd, h => by
    by_cases hm : n ∈ l
    · have h1 : (l.erase n).length = l.length - 1 := List.length_erase_of_mem hm
      have h2 := nodup_len (n := n) (l := l.erase n) (nd.erase n) fun x hx => by
        have := h x (List.mem_of_mem_erase hx)
        have ne : x ≠ n := fun z => by
          subst z
          exact (List.Nodup.not_mem_erase nd) hx
        omega
      omega
    · have := nodup_len (n := n) nd fun x hx => by
        have := h x hx
        have ne : x ≠ n := fun z => hm (z ▸ hx)
        omega
      omega
/-- what is right of a spread at all times: keys unlike, below n; each but the first is led to by an earlier one -/
structure WfA (n : Nat) (A : Ahd) : Prop where
  nd : (A.map (·.1)).Nodup
  lt : ∀ p ∈ A, p.1 < n
  up : ∀ (i c p : Nat), A[i]? = some (c, some p) → ∃ (j : Nat) (q : Option Nat), j < i ∧ A[j]? = some (p, q)
theorem WfA.len {n : Nat} {A : Ahd} (h : WfA n A) : A.length ≤ n := by
  have h2 := nodup_len (n := n) h.nd fun x hx => by
    rw [List.mem_map] at hx
    obtain ⟨p, hp, rfl⟩ := hx
    exact h.lt p hp
  rwa [List.length_map] at h2
theorem WfA.one {n b : Nat} (h : b < n) : WfA n [(b, none)] := ⟨by simp, by simpa using h, fun i c p e => by
  cases i with
  | zero => simp at e
  | succ i => simp at e⟩
theorem WfA.put {n : Nat} {A : Ahd} {c o : Nat} (h : WfA n A) (hc : hasA A c = true) (ho : hasA A o = false) (hl : o < n) : WfA n (A ++ [(o, some c)]) := by
  refine ⟨?_, ?_, ?_⟩
  · rw [List.map_append, List.nodup_append]
    refine ⟨h.nd, by simp, fun a ha b hb z => ?_⟩
    simp at hb
    subst z hb
    rw [hasA_iff.mpr ha] at ho
    cases ho
  · intro p hp
    rw [List.mem_append] at hp
    rcases hp with hp | hp
    · exact h.lt p hp
    · simp at hp
      subst hp
      exact hl
  · intro i x p e
    by_cases hi : i < A.length
    · rw [List.getElem?_append_left hi] at e
      obtain ⟨j, q, hj, ej⟩ := h.up i x p e
      exact ⟨j, q, hj, by rw [List.getElem?_append_left (by omega)]; exact ej⟩
    · rw [List.getElem?_append_right (by omega)] at e
      cases hk : i - A.length with
      | zero =>
        rw [hk] at e
        simp at e
        obtain ⟨rfl, rfl⟩ := e
        rw [hasA_iff, List.mem_map] at hc
        obtain ⟨q, hq, rfl⟩ := hc
        obtain ⟨j, hj, ej⟩ := List.mem_iff_getElem.mp hq
        exact ⟨j, q.2, by omega, by rw [List.getElem?_append_left hj, List.getElem?_eq_getElem hj, ej]⟩
      | succ k =>
        rw [hk] at e
        simp at e
theorem foldl_take {α β : Type} {f : β → α → β} {xs : List α} {i : Nat} {x : α} {s : β} (h : xs[i]? = some x) : (xs.take (i + 1)).foldl f s = f ((xs.take i).foldl f s) x := by
  rw [List.take_add_one, h, List.foldl_append]
  rfl
theorem memW_lot (o : Nat) (l : List Nat) : memW (.int (o : Nat)) (lotW l) = decide (o ∈ l) := by
  unfold memW lotW
  rw [List.any_map, Bool.eq_iff_iff, List.any_eq_true, decide_eq_true_iff]
  constructor
  · rintro ⟨x, hx, h⟩
    have h : decide ((x : Int) = (o : Int)) = true := h
    rw [decide_eq_true_iff] at h
    have : x = o := by omega
    exact this ▸ hx
  · intro h
    exact ⟨o, h, decide_eq_true (show (o : Int) = (o : Int) from rfl)⟩
theorem memW_int (z : Int) (l : List Nat) : memW (.int z) (lotW l) = l.any fun c => decide ((c : Int) = z) := by
  unfold memW lotW
  rw [List.any_map]
  rfl
theorem flat_lot (l : List Nat) : (lotW l).all flatD = true := by
  unfold lotW
  rw [List.all_map, List.all_eq_true]
  intro x _
  rfl
theorem look_put (A : Ahd) (o : Nat) (c : Option Nat) (h : hasA A o = false) : putKs (ahdK A) (.inl (o : Int)) = ahdK (A ++ [(o, c)]) ∧ putWs (ahdK A) (ahdW A) (.inl (o : Int)) (optI c) = ahdW (A ++ [(o, c)]) := by
  have hm : memK (ahdK A) (.inl (o : Int)) = false := by
    refine memK_false fun z => ?_
    unfold ahdK at z
    rw [List.mem_map] at z
    obtain ⟨p, hp, e⟩ := z
    have e : p.1 = o := by have := Sum.inl.inj e; omega
    have : hasA A o = true := hasA_iff.mpr (List.mem_map.mpr ⟨p, hp, e⟩)
    rw [h] at this
    cases this
  unfold putKs putWs
  rw [hm]
  unfold ahdK ahdW
  rw [List.map_append, List.map_append]
  exact ⟨rfl, rfl⟩
structure WfS (n k : Nat) (s : Ahd × List Nat) : Prop where
  wa : WfA n s.1
  ln : s.1.length = k + s.2.length
  ky : ∀ c ∈ s.2, hasA s.1 c = true
theorem hasA_app {A : Ahd} {p : Nat × Option Nat} {x : Nat} (h : hasA A x = true) : hasA (A ++ [p]) x = true := by
  rw [hasA_iff] at h ⊢
  rw [List.map_append]
  exact List.mem_append_left _ h
theorem visit1_wf {n k : Nat} {sh : Nat → Bool} {c o : Nat} {s : Ahd × List Nat} (h : WfS n k s) (hc : hasA s.1 c = true) (ho : o < n) : WfS n k (visit1 sh c s o) := by
  unfold visit1
  by_cases hv : hasA s.1 o = false ∧ sh o = false
  · rw [if_pos hv]
    refine ⟨h.wa.put hc hv.1 ho, ?_, fun x hx => ?_⟩
    · have := h.ln
      rw [List.length_append, List.length_append]
      show s.1.length + 1 = k + (s.2.length + 1)
      omega
    · rw [List.mem_append] at hx
      rcases hx with hx | hx
      · exact hasA_app (h.ky x hx)
      · simp at hx
        subst hx
        rw [hasA_iff, List.map_append]
        exact List.mem_append_right _ (List.mem_singleton.mpr rfl)
  · rw [if_neg hv]
    exact h
theorem visit1_has {sh : Nat → Bool} {c o x : Nat} {s : Ahd × List Nat} (h : hasA s.1 x = true) : hasA (visit1 sh c s o).1 x = true := by
  unfold visit1
  split
  · exact hasA_app h
  · exact h
theorem visits_has {sh : Nat → Bool} {c x : Nat} : ∀ {os : List Nat} {s : Ahd × List Nat}, hasA s.1 x = true → hasA (os.foldl (visit1 sh c) s).1 x = true
  | [], s, h => h
  | o :: os, s, h => visits_has (os := os) (visit1_has h)
theorem visits_wf {n k : Nat} {sh : Nat → Bool} {c : Nat} : ∀ {os : List Nat} {s : Ahd × List Nat}, WfS n k s → hasA s.1 c = true → (∀ o ∈ os, o < n) → WfS n k (os.foldl (visit1 sh c) s)
  | [], s, h, _, _ => h
  | o :: os, s, h, hc, ho => visits_wf (os := os) (visit1_wf h hc (ho o List.mem_cons_self)) (visit1_has hc) fun x hx => ho x (List.mem_cons_of_mem _ hx)
theorem waves_has {ties : List (List Nat)} {sh : Nat → Bool} {x : Nat} : ∀ {cs : List Nat} {s : Ahd × List Nat}, hasA s.1 x = true → hasA (cs.foldl (visitC ties sh) s).1 x = true
  | [], s, h => h
  | c :: cs, s, h => waves_has (cs := cs) (visits_has h)
theorem waves_wf {n k : Nat} {ties : List (List Nat)} {sh : Nat → Bool} (ht : ∀ c o, o ∈ ties.getD c [] → o < n) : ∀ {cs : List Nat} {s : Ahd × List Nat}, WfS n k s → (∀ c ∈ cs, hasA s.1 c = true) → WfS n k (cs.foldl (visitC ties sh) s)
  | [], s, h, _ => h
  | c :: cs, s, h, hc => waves_wf ht (cs := cs) (visits_wf h (hc c List.mem_cons_self) (ht c)) fun x hx => visits_has (hc x (List.mem_cons_of_mem _ hx))
theorem spreadG_nil {ties : List (List Nat)} {sh : Nat → Bool} {f : Nat} {A : Ahd} : spreadG ties sh f A [] = A := by
  cases f with
  | zero => rfl
  | succ f => unfold spreadG; rw [if_pos rfl]
theorem spreadG_step {ties : List (List Nat)} {sh : Nat → Bool} {f : Nat} {A : Ahd} {wt : List Nat} (h : wt ≠ []) : spreadG ties sh (f + 1) A wt = spreadG ties sh f (waveF ties sh A wt).1 (waveF ties sh A wt).2 := by
  rw [spreadG, if_neg h]
theorem spreadG_wf {n : Nat} {ties : List (List Nat)} {sh : Nat → Bool} (ht : ∀ c o, o ∈ ties.getD c [] → o < n) : ∀ {f : Nat} {A : Ahd} {wt : List Nat}, WfA n A → (∀ c ∈ wt, hasA A c = true) → WfA n (spreadG ties sh f A wt)
  | 0, A, wt, h, _ => h
  | f + 1, A, wt, h, hw => by
    by_cases e : wt = []
    · rw [e, spreadG_nil]
      exact h
    · rw [spreadG_step e]
      have w := waves_wf (sh := sh) (k := A.length) ht (s := (A, [])) (cs := wt) ⟨h, rfl, fun c hc => by cases hc⟩ hw
      exact spreadG_wf ht w.wa w.ky
theorem ties_lt {sp : List (Nat × Nat)} {c o : Nat} (h : o ∈ (tiesF sp).getD c []) : o < sp.length := by
  by_cases hc : c < sp.length
  · rw [tie_at hc] at h
    exact tieF_lt h
  · have : (tiesF sp).getD c [] = [] := by
      rw [List.getD_eq_getElem?_getD, List.getElem?_eq_none (by rw [ties_len]; omega)]
      rfl
    rw [this] at h
    cases h
theorem spreadF_wf {sp : List (Nat × Nat)} {sh : Nat → Bool} {b : Nat} (h : b < sp.length) : WfA sp.length (spreadF (tiesF sp) sh b) :=
  spreadG_wf (fun c o => ties_lt) (.one h) fun c hc => by
    rw [List.mem_singleton] at hc
    subst hc
    unfold hasA lookA
    rw [if_pos rfl]
    rfl
theorem lookA_get : ∀ {A : Ahd} {i x : Nat} {v : Option Nat}, (A.map (·.1)).Nodup → A[i]? = some (x, v) → lookA A x = some v
  | [], i, x, v, _, h => by simp at h
  | p :: A, 0, x, v, nd, h => by
    simp at h
    subst h
    unfold lookA
    rw [if_pos rfl]
  | p :: A, i + 1, x, v, nd, h => by
    rw [List.getElem?_cons_succ] at h
    rw [List.map_cons, List.nodup_cons] at nd
    unfold lookA
    rw [if_neg, lookA_get nd.2 h]
    intro z
    exact nd.1 (List.mem_map.mpr ⟨_, List.mem_of_getElem? h, z.symm⟩)
theorem hasA_get {A : Ahd} {x : Nat} (h : hasA A x = true) : ∃ (i : Nat) (v : Option Nat), A[i]? = some (x, v) ∧ i < A.length := by
  rw [hasA_iff, List.mem_map] at h
  obtain ⟨p, hp, rfl⟩ := h
  obtain ⟨i, hi, e⟩ := List.mem_iff_getElem.mp hp
  exact ⟨i, p.2, by rw [List.getElem?_eq_getElem hi, e], hi⟩
theorem atI_last {α : Type} (xs : List α) (x : α) : atI (xs ++ [x]) (-1) = some x := by
  unfold atI ixN
  rw [List.length_append, List.length_singleton]
  rw [if_neg (by omega), if_pos (by omega)]
  show (xs ++ [x])[((-1 : Int) + ((xs.length + 1 : Nat) : Int)).toNat]? = some x
  rw [show ((-1 : Int) + ((xs.length + 1 : Nat) : Int)).toNat = xs.length by omega]
  simp
/-- the row of cells back to where the spread began -/
def chainG : Nat → Ahd → Nat → List Nat
  | 0, _, e => [e]
  | f + 1, A, e => match lookA A e with
    | some (some p) => e :: chainG f A p
    | _ => [e]
theorem chainG_end {f : Nat} {A : Ahd} {e : Nat} (h : lookA A e = some none) : chainG f A e = [e] := by
  cases f with
  | zero => rfl
  | succ f => unfold chainG; rw [h]
theorem chainG_more {f : Nat} {A : Ahd} {e p : Nat} (h : lookA A e = some (some p)) : chainG (f + 1) A e = e :: chainG f A p := by
  rw [chainG, h]
def wayF (A : Ahd) (e : Nat) : Option (List Nat) := if hasA A e then some (chainG A.length A e).reverse else none
def wayD : Option (List Nat) → Dt
  | none => .non
  | some l => .tup (lotW l)
theorem ne_of_sup {S : Store} {a b : Addr} {o : Ob} (h : sup S a o b = none) : b ≠ a := fun z => by
  subst z
  rw [sup_same] at h
  cases h
theorem sub_sdel_none {S S' : Store} {a : Addr} (h : S a = none) (hs : Sub S S') : Sub S (sdel S' a) := fun b o e => by
  have ne : b ≠ a := fun z => by rw [z, h] at e; cases e
  unfold sdel
  rw [if_neg ne]
  exact hs b o e
theorem sub_set {S S' : Store} {a : Addr} {o : Ob} (h : S a = none) (hs : Sub S S') : Sub S (sup S' a o) := fun b u e => by
  have ne : b ≠ a := fun z => by rw [z, h] at e; cases e
  rw [sup_ne ne]
  exact hs b u e
theorem lotW_len (l : List Nat) : (lotW l).length = l.length := List.length_map ..
theorem lotW_get {l : List Nat} {i : Nat} {w : Dt} (h : (lotW l)[i]? = some w) : ∃ c : Nat, l[i]? = some c ∧ w = .int (c : Nat) := by
  unfold lotW at h
  rw [List.getElem?_map, Option.map_eq_some_iff] at h
  obtain ⟨c, e, rfl⟩ := h
  exact ⟨c, e, rfl⟩
theorem ofF_len {R : Rws} (h : GoodF R) (s : Nat) : (ofF R s).length ≤ 144 := by
  unfold ofF
  rw [List.length_map]
  refine Nat.le_trans (List.length_filter_le _ _) ?_
  rw [List.length_zipIdx]
  exact spots_len h
/-- the other homes -/
def othF (R : Rws) (r : Int) : List Nat := ((ofF R 72).zipIdx.filter fun p => !decide ((p.2 : Int) = r)).map (·.1)
theorem ofF_lt {R : Rws} {s c : Nat} (h : c ∈ ofF R s) : c < (spotsF R).length := by
  unfold ofF at h
  rw [List.mem_map] at h
  obtain ⟨p, hp, rfl⟩ := h
  have := (List.mem_filter.mp hp).1
  rw [List.mem_zipIdx_iff_getElem?] at this
  exact (List.getElem?_eq_some_iff.mp this).1
theorem othF_lt {R : Rws} {r : Int} {c : Nat} (h : c ∈ othF R r) : c < (spotsF R).length := by
  unfold othF at h
  rw [List.mem_map] at h
  obtain ⟨p, hp, rfl⟩ := h
  have := (List.mem_filter.mp hp).1
  rw [List.mem_zipIdx_iff_getElem?] at this
  exact ofF_lt (List.mem_of_getElem? this)
def metF (R : Rws) (b : Nat) (l : List Nat) : Ahd := spreadF (tiesF (spotsF R)) (fun o => decide (o ∈ l)) b
def barF (R : Rws) (r s : Nat) : Option (List Nat) := if hasA (metF R ((ofF R 72).getD r 0) (othF R r)) ((ofF R 83).getD s 0) then none
  else some ((othF R r).filter fun c => (tieF (spotsF R) ((spotsF R).getD c (0, 0))).any (hasA (metF R ((ofF R 72).getD r 0) (othF R r))))
def natsOf (n : Nat) : List Dt → Option (List Nat)
  | [] => some []
  | .int i :: ws => if 0 ≤ i ∧ i < (n : Int) then (natsOf n ws).map (i.toNat :: ·) else none
  | _ :: _ => none
def ascB (l : List Nat) : Bool := (l.zip l.tail).all fun p => decide (p.1 < p.2)
def lotOf (n : Nat) : Dt → Option (List Nat)
  | .tup xs => match natsOf n xs with
    | some l => if ascB l then some l else none
    | none => none
  | _ => none
theorem inW_iff {w : Dt} {n : Nat} : inW w 0 ((n : Int) - 1) = true ↔ ∃ i : Nat, w = .int (i : Nat) ∧ i < n := by
  constructor
  · intro h
    cases w with
    | int i =>
      unfold inW at h
      rw [Bool.and_eq_true, decide_eq_true_eq, decide_eq_true_eq] at h
      exact ⟨i.toNat, by congr 1; omega, by omega⟩
    | _ => cases h
  · rintro ⟨i, rfl, h⟩
    show (decide ((0 : Int) ≤ (i : Int)) && decide ((i : Int) ≤ (n : Int) - 1)) = true
    rw [decide_eq_true (by omega), decide_eq_true (by omega)]
    rfl
theorem natsOf_cons {n i : Nat} {ws : List Dt} (h : i < n) : natsOf n (.int (i : Nat) :: ws) = (natsOf n ws).map (i :: ·) := by
  rw [natsOf, if_pos ⟨by omega, by omega⟩]
  rfl
theorem natsOf_some {n : Nat} : ∀ {ws : List Dt} {l : List Nat}, natsOf n ws = some l → ws = lotW l ∧ ∀ c ∈ l, c < n
  | [], l, h => by
    cases h
    exact ⟨rfl, fun c h => nomatch h⟩
  | w :: ws, l, h => by
    cases w with
    | int i =>
      rw [natsOf] at h
      split at h
      · rename_i hi
        rw [Option.map_eq_some_iff] at h
        obtain ⟨m, e, rfl⟩ := h
        obtain ⟨rfl, hm⟩ := natsOf_some e
        refine ⟨?_, fun c hc => ?_⟩
        · show _ = Dt.int ((i.toNat : Nat) : Int) :: lotW m
          congr 2
          omega
        · rcases List.mem_cons.mp hc with rfl | hc
          · omega
          · exact hm c hc
      · cases h
    | _ => cases h
theorem natsOf_lot {n : Nat} : ∀ {l : List Nat}, (∀ c ∈ l, c < n) → natsOf n (lotW l) = some l
  | [], _ => rfl
  | c :: l, h => by
    show natsOf n (.int (c : Nat) :: lotW l) = _
    rw [natsOf_cons (h c List.mem_cons_self), natsOf_lot fun x hx => h x (List.mem_cons_of_mem _ hx)]
    rfl
theorem natsOf_all {n : Nat} : ∀ {ws : List Dt}, ws.all (fun w => inW w 0 ((n : Int) - 1)) = (natsOf n ws).isSome
  | [] => rfl
  | w :: ws => by
    rw [List.all_cons]
    cases h : inW w 0 ((n : Int) - 1) with
    | true =>
      obtain ⟨i, rfl, hi⟩ := inW_iff.mp h
      rw [natsOf_cons hi, Option.isSome_map, Bool.true_and]
      exact natsOf_all
    | false =>
      rw [Bool.false_and]
      cases w with
      | int i =>
        rw [natsOf]
        split
        · rename_i hi
          have : inW (.int i) 0 ((n : Int) - 1) = true := inW_iff.mpr ⟨i.toNat, by congr 1; omega, by omega⟩
          rw [this] at h
          cases h
        · rfl
      | _ => rfl
def isBarF (R : Rws) (r s : Nat) (w : Dt) : Bool := match lotOf (spotsF R).length w with
  | none => false
  | some l => l.all (fun c => decide (c ∈ othF R r)) && !hasA (metF R ((ofF R 72).getD r 0) l) ((ofF R 83).getD s 0)
def openF (R : Rws) (r c : Nat) : Bool := !decide (c ∈ ofF R 72) || decide (c = (ofF R 72).getD r 0)
def okCell (R : Rws) (r : Nat) (w : Dt) : Bool := match w with
  | .int i => decide (0 ≤ i ∧ i < ((spotsF R).length : Int)) && openF R r i.toNat
  | _ => false
def farD : Option (List Nat) → Dt
  | none => .non
  | some l => .int ((l.length : Int) - 1)
theorem lotOf_eq (n : Nat) (xs : List Dt) : lotOf n (.tup xs) = match natsOf n xs with
    | some l => if ascB l then some l else none
    | none => none := rfl
theorem lotOf_some {n : Nat} {w : Dt} {l : List Nat} (h : lotOf n w = some l) : w = .tup (lotW l) ∧ (∀ c ∈ l, c < n) := by
  cases w with
  | tup xs =>
    rw [lotOf_eq] at h
    split at h
    · rename_i l' e
      split at h
      · cases h
        obtain ⟨rfl, h⟩ := natsOf_some e
        exact ⟨rfl, h⟩
      · cases h
    · cases h
  | _ => cases h
theorem zipIdx_fst {α β : Type} (f : α → β) (xs : List α) (n : Nat) : (xs.zipIdx n).map (fun p => f p.1) = xs.map f := by
  induction xs generalizing n with
  | nil => rfl
  | cons x xs ih => rw [List.zipIdx_cons, List.map_cons, List.map_cons, ih]
theorem zipIdx_take {α : Type} {xs : List α} {i n : Nat} {x : α} (h : xs[i]? = some x) : ((xs.zipIdx n).take (i + 1)) = (xs.zipIdx n).take i ++ [(x, n + i)] := by
  rw [List.take_add_one, List.getElem?_zipIdx, h]
  rfl
theorem take_succ {α : Type} {xs : List α} {i : Nat} {x : α} (h : xs[i]? = some x) : xs.take (i + 1) = xs.take i ++ [x] := by
  rw [List.take_add_one, h]
  rfl
theorem map_get {α : Type} {F : α → Dt} {xs : List α} {i : Nat} {w : Dt} (h : (xs.map F)[i]? = some w) : ∃ x, xs[i]? = some x ∧ w = F x := by
  rw [List.getElem?_map, Option.map_eq_some_iff] at h
  obtain ⟨x, e, r⟩ := h
  exact ⟨x, e, r.symm⟩
theorem row_at {r : List Nat} {j : Nat} (h : j < r.length) : atI (⟨r.toArray⟩ : Str).cps.toList (j : Int) = some (r.getD j 0) := by
  show atI r.toArray.toList (j : Int) = _
  have := atI_map (f := id) 0 h
  rw [List.map_id] at this
  exact this
theorem okCell_no {R : Rws} {r : Nat} {w : Dt} (h : inW w 0 (((spotsF R).length : Int) - 1) = false) : okCell R r w = false := by
  cases w with
  | int i =>
    show (decide (0 ≤ i ∧ i < ((spotsF R).length : Int)) && openF R r i.toNat) = false
    by_cases hi : 0 ≤ i ∧ i < ((spotsF R).length : Int)
    · have : inW (.int i) 0 (((spotsF R).length : Int) - 1) = true := inW_iff.mpr ⟨i.toNat, by congr 1; omega, by omega⟩
      rw [this] at h
      cases h
    · rw [decide_eq_false hi]
      rfl
  | _ => rfl
theorem okCell_nat {R : Rws} {r a : Nat} (h : a < (spotsF R).length) : okCell R r (.int (a : Nat)) = openF R r a := by
  show (decide ((0 : Int) ≤ (a : Int) ∧ (a : Int) < ((spotsF R).length : Int)) && openF R r (a : Int).toNat) = _
  rw [decide_eq_true ⟨by omega, by omega⟩, Int.toNat_natCast]
  rfl
theorem spots_take (R : Rws) (i : Nat) : ((R.zipIdx.take i).flatMap fun p => rowSp p.2 p.1).length ≤ (spotsF R).length := by
  have : spotsF R = ((R.zipIdx.take i).flatMap fun p => rowSp p.2 p.1) ++ ((R.zipIdx.drop i).flatMap fun p => rowSp p.2 p.1) := by
    unfold spotsF
    rw [← List.flatMap_append, List.take_append_drop]
  rw [this, List.length_append]
  exact Nat.le_add_right _ _
theorem spots_more {R : Rws} {i j : Nat} {r : List Nat} (h : R.zipIdx[i]? = some (r, j)) : ((R.zipIdx.take (i + 1)).flatMap fun p => rowSp p.2 p.1) = ((R.zipIdx.take i).flatMap fun p => rowSp p.2 p.1) ++ rowSp j r := by
  rw [take_succ h, List.flatMap_append]
  congr 1
  rw [List.flatMap_cons, List.flatMap_nil, List.append_nil]
theorem dlook_sp {S : Store} {sp : List (Nat × Nat)} (q : Int × Int) : dlook S (.dT (sp.map kyP) (sp.zipIdx.map fun p => .int (p.2 : Nat))) (.tup [.int q.1, .int q.2]) = some ((lookP sp 0 q).map fun i => .int (i : Nat)) := congrArg some (lkW_look sp 0 q)
def lenW : Dt → Nat
  | .str z => z.length
  | _ => 0
def frowW : Dt → Bool
  | .str z => decide (1 ≤ z.length) && decide (z.length ≤ 12) && z.cps.toList.all isSg
  | _ => false
/-- the first of a thing's parts that is no row -/
def badRow (ws : List Dt) : Option Nat := ws.findIdx? fun w => !frowW w || !decide (lenW w = lenW (ws.headD .non))
def rowOf : Dt → List Nat
  | .str z => z.cps.toList
  | _ => []
def szW : Dt → Int → Int → Bool
  | .tup xs, lo, hi => decide (lo ≤ (xs.length : Int)) && decide ((xs.length : Int) ≤ hi)
  | _, _, _ => false
/-- what is wrong with the rows of a floor -/
def badW (w : Dt) : Option Dt := match w with
    | .tup ws => if 1 ≤ ws.length ∧ ws.length ≤ 12 then match badRow ws with
      | some k => some (.int (k : Nat))
      | none => if 1 ≤ homesF (ws.map rowOf) ∧ homesF (ws.map rowOf) ≤ 6 then none else some (.str "homes")
      else some (.int (-1))
    | _ => some (.int (-1))
theorem frowW_of {w : Dt} (h : frowW w = true) : ∃ z : Str, w = .str z ∧ 1 ≤ z.length ∧ z.length ≤ 12 ∧ z.cps.toList.all isSg = true ∧ lenW w = z.length ∧ rowS (rowOf w) = w ∧ (rowOf w).length = z.length := by
  cases w with
  | str z =>
    have h : (decide (1 ≤ z.length) && decide (z.length ≤ 12) && z.cps.toList.all isSg) = true := h
    rw [Bool.and_eq_true, Bool.and_eq_true, decide_eq_true_iff, decide_eq_true_iff] at h
    refine ⟨z, rfl, h.1.1, h.1.2, h.2, rfl, ?_, Array.length_toList⟩
    show Dt.str ⟨z.cps.toList.toArray⟩ = .str z
    congr 1
  | _ => cases h
theorem badRow_some {ws : List Dt} {i : Nat} {w : Dt} (e : ws[i]? = some w) (hb : (!frowW w || !decide (lenW w = lenW (ws.headD .non))) = true) (h : ∀ (j : Nat) (v : Dt), j < i → ws[j]? = some v → (!frowW v || !decide (lenW v = lenW (ws.headD .non))) = false) : badRow ws = some i := by
  unfold badRow
  rw [List.findIdx?_eq_some_iff_getElem]
  obtain ⟨hi, ei⟩ := List.getElem?_eq_some_iff.mp e
  refine ⟨hi, by rw [ei]; exact hb, fun j hj => ?_⟩
  have := h j (ws[j]'(by omega)) hj (List.getElem?_eq_getElem (by omega))
  rw [this]
  exact Bool.false_ne_true
theorem badRow_none {ws : List Dt} (h : ∀ (j : Nat) (v : Dt), ws[j]? = some v → (!frowW v || !decide (lenW v = lenW (ws.headD .non))) = false) : badRow ws = none := by
  unfold badRow
  rw [List.findIdx?_eq_none_iff]
  intro x hx
  obtain ⟨j, hj, e⟩ := List.mem_iff_getElem.mp hx
  exact h j x (by rw [List.getElem?_eq_getElem hj, e])
theorem rows_of {ws : List Dt} (h : ∀ w ∈ ws, frowW w = true) : (ws.map rowOf).map rowS = ws := by
  rw [List.map_map]
  have : ∀ w ∈ ws, (rowS ∘ rowOf) w = w := fun w hw => (frowW_of (h w hw)).choose_spec.2.2.2.2.2.1
  conv => rhs; rw [← List.map_id ws]
  exact List.map_congr_left this
theorem good_of {ws : List Dt} (h1 : 1 ≤ ws.length) (h2 : ws.length ≤ 12) (h : ∀ (j : Nat) (v : Dt), ws[j]? = some v → (!frowW v || !decide (lenW v = lenW (ws.headD .non))) = false) (o1 : 1 ≤ homesF (ws.map rowOf)) (o2 : homesF (ws.map rowOf) ≤ 6) : GoodF (ws.map rowOf) := by
  have fr : ∀ w ∈ ws, frowW w = true ∧ lenW w = lenW (ws.headD .non) := fun w hw => by
    obtain ⟨j, hj, e⟩ := List.mem_iff_getElem.mp hw
    have := h j w (by rw [List.getElem?_eq_getElem hj, e])
    rw [Bool.or_eq_false_iff, Bool.not_eq_false', Bool.not_eq_false', decide_eq_true_iff] at this
    exact this
  have hd : wideF (ws.map rowOf) = lenW (ws.headD .non) ∧ 1 ≤ lenW (ws.headD .non) ∧ lenW (ws.headD .non) ≤ 12 := by
    cases ws with
    | nil => exact absurd h1 (by decide)
    | cons w ws =>
      obtain ⟨z, rfl, a, b, c, d, e, f⟩ := frowW_of (fr w List.mem_cons_self).1
      exact ⟨f, a, b⟩
  refine ⟨by rw [List.length_map]; exact h1, by rw [List.length_map]; exact h2, fun r hr => ?_, by rw [hd.1]; exact hd.2.1, by rw [hd.1]; exact hd.2.2, fun r hr => ?_, o1, o2⟩
  · obtain ⟨w, hw, rfl⟩ := List.mem_map.mp hr
    obtain ⟨z, e1, a, b, c, d, e, f⟩ := frowW_of (fr w hw).1
    rw [hd.1, ← (fr w hw).2, d, f]
  · obtain ⟨w, hw, rfl⟩ := List.mem_map.mp hr
    obtain ⟨z, rfl, a, b, c, d, e, f⟩ := frowW_of (fr w hw).1
    exact List.all_eq_true.mp c
theorem rowS_inj {r q : List Nat} (h : rowS r = rowS q) : r = q := by
  unfold rowS at h
  injection h with h
  have := congrArg (fun z : Str => z.cps.toList) h
  simpa using this
theorem rows_inj {R R' : Rws} (h : (.tup (R.map rowS) : Dt) = .tup (R'.map rowS)) : R = R' := by
  injection h with h
  induction R generalizing R' with
  | nil => cases R' with
    | nil => rfl
    | cons r R' => cases h
  | cons r R ih => cases R' with
    | nil => cases h
    | cons r' R' =>
      rw [List.map_cons, List.map_cons] at h
      have := List.cons.inj h
      rw [rowS_inj this.1, ih this.2]
theorem rowOf_rowS (R : Rws) : (R.map rowS).map rowOf = R := by
  rw [List.map_map]
  conv => rhs; rw [← List.map_id R]
  refine List.map_congr_left fun r _ => ?_
  show r.toArray.toList = r
  simp
theorem frowW_row {R : Rws} (h : GoodF R) {r : List Nat} (hr : r ∈ R) : frowW (rowS r) = true := by
  show (decide (1 ≤ (⟨r.toArray⟩ : Str).length) && decide ((⟨r.toArray⟩ : Str).length ≤ 12) && r.toArray.toList.all isSg) = true
  have := h.w1
  have := h.w2
  rw [rowS_len, h.wl r hr, decide_eq_true (by omega), decide_eq_true (by omega)]
  have e : r.toArray.toList = r := by simp
  rw [e, Bool.true_and, Bool.true_and, List.all_eq_true]
  exact h.sg r hr
theorem badW_good {R : Rws} (h : GoodF R) : badW (.tup (R.map rowS)) = none := by
  have h1 := h.h1
  have h2 := h.h2
  have bn : badRow (R.map rowS) = none := badRow_none fun j v e => by
    obtain ⟨r, hr, rfl⟩ := List.mem_map.mp (List.mem_of_getElem? e)
    rw [frowW_row h hr]
    have l1 : lenW (rowS r) = wideF R := by
      show (⟨r.toArray⟩ : Str).length = _
      rw [rowS_len, h.wl r hr]
    have l2 : lenW ((R.map rowS).headD .non) = wideF R := by
      cases R with
      | nil => cases h1
      | cons q R =>
        show (⟨q.toArray⟩ : Str).length = _
        rw [rowS_len]
        rfl
    rw [l1, l2, decide_eq_true rfl]
    rfl
  show (if 1 ≤ (R.map rowS).length ∧ (R.map rowS).length ≤ 12 then _ else _) = _
  rw [List.length_map, if_pos ⟨h1, h2⟩, bn]
  dsimp only
  rw [rowOf_rowS, if_pos ⟨h.o1, h.o2⟩]
theorem rows_pl (R : Rws) : pl (.tup (R.map rowS)) = true := pl_tup_of fun w h => by
  obtain ⟨r, _, rfl⟩ := List.mem_map.mp h
  rfl
theorem ofF_pos {R : Rws} (h : GoodF R) : 0 < (ofF R 72).length := by
  have : ∀ Q : Rws, 1 ≤ homesF Q → ∃ i, i < Q.length ∧ 72 ∈ Q.getD i [] := by
    intro Q
    induction Q with
    | nil => intro h; cases h
    | cons r Q ih =>
      intro h
      by_cases hr : 72 ∈ r
      · exact ⟨0, Nat.succ_pos _, hr⟩
      · unfold homesF at h
        rw [List.map_cons, List.sum_cons, List.count_eq_zero_of_not_mem hr, Nat.zero_add] at h
        obtain ⟨i, hi, hm⟩ := ih h
        exact ⟨i + 1, by rw [List.length_cons]; omega, by rw [List.getD_cons_succ]; exact hm⟩
  obtain ⟨i, hi, hm⟩ := this R h.o1
  obtain ⟨j, hj, e⟩ := List.mem_iff_getElem.mp hm
  have sg : signF R (i, j) = 72 := by
    unfold signF
    rw [getD_get hj, e]
  have hs : (i, j) ∈ spotsF R := mem_spots.mpr ⟨hi, hj, by rw [sg]; decide⟩
  obtain ⟨c, hc, ec⟩ := List.mem_iff_getElem.mp hs
  have : c ∈ ofF R 72 := by
    unfold ofF
    rw [range_filter (0, 0) (spotsF R) (fun p => decide (signF R p = 72)), List.mem_filter, List.mem_range]
    exact ⟨hc, by rw [getD_get hc, ec]; exact decide_eq_true sg⟩
  exact List.length_pos_of_mem this
theorem niceL_of : ∀ {ws : List Dt}, (∀ w ∈ ws, nice w = true) → nice.niceL ws = true
  | [], _ => rfl
  | w :: ws, h => by
    unfold nice.niceL
    rw [h w List.mem_cons_self, niceL_of fun x hx => h x (List.mem_cons_of_mem _ hx)]
    rfl
theorem depL_le : ∀ {ws : List Dt} {n : Nat}, (∀ w ∈ ws, dep w ≤ n) → dep.depL ws ≤ n
  | [], _, _ => Nat.zero_le _
  | w :: ws, n, h => by
    unfold dep.depL
    exact Nat.max_le.mpr ⟨h w List.mem_cons_self, depL_le fun x hx => h x (List.mem_cons_of_mem _ hx)⟩
theorem rows_nice (R : Rws) : nice (.tup (R.map rowS)) = true := by
  unfold nice
  refine niceL_of fun w hw => ?_
  obtain ⟨r, _, rfl⟩ := List.mem_map.mp hw
  rfl
theorem rows_dep (R : Rws) : dep (.tup (R.map rowS)) ≤ 1 := by
  unfold dep
  have : dep.depL (R.map rowS) ≤ 0 := depL_le fun w hw => by
    obtain ⟨r, _, rfl⟩ := List.mem_map.mp hw
    exact Nat.le_refl _
  omega
theorem head_at {xs : List Dt} (h : 1 ≤ xs.length) : xs[0]? = some (xs.headD .non) ∧ atI xs 0 = some (xs.headD .non) := by
  cases xs with
  | nil => exact absurd h (by decide)
  | cons x xs => exact ⟨rfl, at_0⟩
theorem cnt_count (c : Nat) : ∀ l : List Nat, cnt c l = (l.count c : Nat)
  | [] => rfl
  | n :: r => by
    rw [cnt_cons, cnt_count c r, List.count_cons]
    by_cases h : n = c
    · rw [if_pos h, if_pos (by simpa using h)]
      omega
    · rw [if_neg h, if_neg (by simpa using h)]
      omega
theorem count_row (r : List Nat) : Txt.count ⟨r.toArray⟩ ("H" : Str) = (r.count 72 : Nat) := by
  rw [strH, count_cnt, cnt_count]
theorem sum_count : ∀ R : Rws, (R.map fun r => ((r.count 72 : Nat) : Int)).sum = (homesF R : Nat)
  | [] => rfl
  | r :: R => by
    rw [List.map_cons, List.sum_cons, sum_count R]
    unfold homesF
    rw [List.map_cons, List.sum_cons]
    omega
theorem othF_eq (R : Rws) (r : Int) : othF R r = ((List.range (ofF R 72).length).filter fun (k : Nat) => !decide ((k : Int) = r)).map fun (k : Nat) => (ofF R 72).getD k 0 := by
  unfold othF
  rw [zipIdx_eq 0, List.filter_map, List.map_map]
  rfl
theorem ofF_nodup (R : Rws) (s : Nat) : (ofF R s).Nodup := by
  unfold ofF
  rw [range_filter (0, 0) (spotsF R) (fun p => decide (signF R p = s))]
  exact List.nodup_range.filter _
theorem nodup_inj {l : List Nat} (nd : l.Nodup) {i j : Nat} (hi : i < l.length) (hj : j < l.length) (e : l[i] = l[j]) : i = j := by
  have h := List.pairwise_iff_getElem.mp nd
  rcases Nat.lt_trichotomy i j with z | z | z
  · exact absurd e (h i j hi hj z)
  · exact z
  · exact absurd e.symm (h j i hj hi z)
theorem mem_oth {R : Rws} {r c : Nat} (hr : r < (ofF R 72).length) : c ∈ othF R r ↔ c ∈ ofF R 72 ∧ c ≠ (ofF R 72).getD r 0 := by
  rw [othF_eq, List.mem_map]
  constructor
  · rintro ⟨k, hk, rfl⟩
    rw [List.mem_filter, List.mem_range] at hk
    refine ⟨getD_mem hk.1, fun z => ?_⟩
    rw [getD_get hk.1, getD_get hr] at z
    have : k = r := nodup_inj (ofF_nodup R 72) hk.1 hr z
    have h2 := hk.2
    rw [this] at h2
    simp at h2
  · rintro ⟨hc, hne⟩
    obtain ⟨k, hk, e⟩ := List.mem_iff_getElem.mp hc
    refine ⟨k, ?_, by rw [getD_get hk, e]⟩
    rw [List.mem_filter, List.mem_range]
    refine ⟨hk, ?_⟩
    have : k ≠ r := fun z => by
      subst z
      rw [getD_get hk, e] at hne
      exact hne rfl
    simp
    omega
theorem open_oth {R : Rws} {r c : Nat} (hr : r < (ofF R 72).length) : openF R r c = !decide (c ∈ othF R r) := by
  unfold openF
  rw [Bool.eq_iff_iff, Bool.or_eq_true, Bool.not_eq_true', Bool.not_eq_true', decide_eq_true_iff, decide_eq_false_iff_not, decide_eq_false_iff_not, mem_oth hr]
  constructor
  · rintro (h | h) z
    · exact h z.1
    · exact z.2 h
  · intro h
    by_cases hc : c ∈ ofF R 72
    · exact .inr (Classical.byContradiction fun z => h ⟨hc, z⟩)
    · exact .inl hc
theorem rng_get {n i : Nat} {w : Dt} (h : ((List.range n).map fun i => Dt.int (i : Nat))[i]? = some w) : i < n ∧ w = .int (i : Nat) := by
  obtain ⟨j, ej, rfl⟩ := map_get h
  obtain ⟨a, b⟩ := List.getElem?_eq_some_iff.mp ej
  rw [List.length_range] at a
  rw [List.getElem_range] at b
  exact ⟨a, by rw [b]⟩
theorem zip_get {α : Type} {F : α × Nat → Dt} {xs : List α} {i : Nat} {w : Dt} (d : α) (h : (xs.zipIdx.map F)[i]? = some w) : i < xs.length ∧ w = F (xs.getD i d, i) := by
  obtain ⟨⟨x, j⟩, ej, rfl⟩ := map_get h
  obtain ⟨a, b⟩ := List.getElem?_eq_some_iff.mp ej
  rw [List.length_zipIdx] at a
  rw [List.getElem_zipIdx, Nat.zero_add] at b
  rw [← b]
  exact ⟨a, by rw [getD_get a]⟩
theorem atI_neg1 {α : Type} {xs : List α} {d : Nat} (h : xs.length = d + 1) : atI xs (-1) = xs[d]? := by
  unfold atI ixN
  rw [h, if_neg (by omega), if_pos (by omega)]
  show xs[((-1 : Int) + ((d + 1 : Nat) : Int)).toNat]? = _
  congr 1
  omega
theorem lotW_at {l : List Nat} {i c : Nat} (h : l[i]? = some c) : (lotW l)[i]? = some (.int (c : Nat)) := by
  unfold lotW
  rw [List.getElem?_map, h]
  rfl
theorem inW_lt {i n : Nat} (h : i < n) : inW (.int (i : Nat)) 0 ((n : Int) - 1) = true := inW_iff.mpr ⟨i, rfl, h⟩
def optP : Option (Nat × Nat) → Dt
  | none => .non
  | some p => spD p
theorem optP_ok (o : Option (Nat × Nat)) : pl (optP o) = true ∧ nice (optP o) = true ∧ dep (optP o) ≤ 1 ∧ isNon (optP o) = o.isNone := by
  cases o with
  | none => exact ⟨rfl, rfl, Nat.zero_le _, rfl⟩
  | some p => exact ⟨rfl, rfl, Nat.le_of_ble_eq_true rfl, rfl⟩
theorem sameW_int {i j : Int} (h : i = j) : sameW (.int i) (.int j) = true := by
  unfold sameW
  exact decide_eq_true h
theorem cutW_from1 {α : Type} (xs : List α) : cutW xs (some 1) none = xs.tail := by
  cases xs with
  | nil => rfl
  | cons x xs =>
    unfold cutW HT.sIx
    show (List.drop (min 1 (xs.length + 1)) (x :: xs)).take (xs.length + 1 - min 1 (xs.length + 1)) = xs
    rw [Nat.min_eq_left (by omega), List.drop_succ_cons, List.drop_zero, List.take_of_length_le (by omega)]
theorem zipW_map {α β : Type} (f : α → Dt) (g : β → Dt) : ∀ (xs : List α) (ys : List β), zipW (xs.map f) (ys.map g) = (xs.zip ys).map fun p => .tup [f p.1, g p.2]
  | [], _ => rfl
  | _ :: _, [] => rfl
  | x :: xs, y :: ys => by
    rw [List.map_cons, List.map_cons, List.zip_cons_cons, List.map_cons, ← zipW_map f g xs ys]
    rfl
/-! ### what a spread tells -/
inductive Rch (ties : List (List Nat)) (sh : Nat → Bool) (b : Nat) : Nat → Nat → Prop where
  | zero : Rch ties sh b 0 b
  | step {k c o : Nat} (h : Rch ties sh b k c) (ho : o ∈ ties.getD c []) (hs : sh o = false) : Rch ties sh b (k + 1) o
def IsD (ties : List (List Nat)) (sh : Nat → Bool) (b c d : Nat) : Prop := Rch ties sh b d c ∧ ∀ k, Rch ties sh b k c → d ≤ k
theorem IsD.uniq {ties : List (List Nat)} {sh : Nat → Bool} {b c d e : Nat} (h : IsD ties sh b c d) (h2 : IsD ties sh b c e) : d = e := by
  have := h.2 e h2.1
  have := h2.2 d h.1
  omega
/-- how far the cells are, as long as the spread goes on: s.1 all, s.2 those of the next wave, wt those whose neighbours are still to be seen -/
structure Lv (ties : List (List Nat)) (sh : Nat → Bool) (b d : Nat) (wt : List Nat) (s : Ahd × List Nat) (lev : Nat → Nat) : Prop where
  b0 : lev b = 0
  hb : hasA s.1 b = true
  up : ∀ c p, lookA s.1 c = some (some p) → hasA s.1 p = true ∧ lev c = lev p + 1 ∧ c ∈ ties.getD p [] ∧ sh c = false
  no : ∀ c, lookA s.1 c = some none → c = b
  ow : ∀ c ∈ wt, hasA s.1 c = true ∧ lev c = d
  on : ∀ c ∈ s.2, hasA s.1 c = true ∧ lev c = d + 1
  le : ∀ c, hasA s.1 c = true → c ∉ s.2 → lev c ≤ d
  cl : ∀ c, hasA s.1 c = true → c ∉ wt → c ∉ s.2 → ∀ o ∈ ties.getD c [], sh o = false → hasA s.1 o = true ∧ lev o ≤ lev c + 1
section
variable {ties : List (List Nat)} {sh : Nat → Bool} {b d : Nat}
theorem lookA_put {A : Ahd} {o x : Nat} {v : Option Nat} (h : hasA A o = false) : lookA (A ++ [(o, v)]) x = if x = o then some v else lookA A x := by
  rw [lookA_app]
  unfold hasA at h
  rw [Option.isSome_eq_false_iff, Option.isNone_iff_eq_none] at h
  by_cases e : x = o
  · subst e
    rw [if_pos rfl, h]
    show lookA [(x, v)] x = some v
    unfold lookA
    rw [if_pos rfl]
  · rw [if_neg e]
    have : lookA [(o, v)] x = none := by
      unfold lookA
      rw [if_neg (fun z => e z.symm)]
      rfl
    rw [this, Option.or_none]
theorem hasA_put {A : Ahd} {o x : Nat} {v : Option Nat} : hasA (A ++ [(o, v)]) x = true ↔ hasA A x = true ∨ x = o := by
  rw [hasA_iff, hasA_iff, List.map_append, List.mem_append]
  simp
/-- one neighbour of a cell of the wave is seen -/
theorem Lv.visit {wt : List Nat} {s : Ahd × List Nat} {lev : Nat → Nat} (h : Lv ties sh b d wt s lev) {c o : Nat} (hc : hasA s.1 c = true) (ec : lev c = d) (ho : o ∈ ties.getD c []) (hcs : c ∉ s.2) :
    ∃ lev' : Nat → Nat, Lv ties sh b d wt (visit1 sh c s o) lev' ∧ (∀ x, hasA s.1 x = true → lev' x = lev x) ∧ (sh o = false → hasA (visit1 sh c s o).1 o = true ∧ lev' o ≤ d + 1) ∧ c ∉ (visit1 sh c s o).2 := by
  unfold visit1
  by_cases hv : hasA s.1 o = false ∧ sh o = false
  · rw [if_pos hv]
    have ne : ∀ x, hasA s.1 x = true → x ≠ o := fun x hx z => by
      rw [z, hv.1] at hx
      cases hx
    refine ⟨fun x => if x = o then d + 1 else lev x, ⟨?_, ?_, ?_, ?_, ?_, ?_, ?_, ?_⟩, fun x hx => if_neg (ne x hx), fun _ => ⟨hasA_put.mpr (.inr rfl), by show (if o = o then d + 1 else lev o) ≤ d + 1; rw [if_pos rfl]; exact Nat.le_refl _⟩, ?_⟩
    · rw [if_neg (ne b h.hb)]
      exact h.b0
    · exact hasA_put.mpr (.inl h.hb)
    · intro x p e
      rw [lookA_put hv.1] at e
      by_cases ex : x = o
      · rw [if_pos ex] at e
        cases e
        subst ex
        rw [if_pos rfl, if_neg (ne c hc), ec]
        exact ⟨hasA_put.mpr (.inl hc), rfl, ho, hv.2⟩
      · rw [if_neg ex] at e
        have := h.up x p e
        rw [if_neg ex, if_neg (ne p this.1)]
        exact ⟨hasA_put.mpr (.inl this.1), this.2⟩
    · intro x e
      rw [lookA_put hv.1] at e
      by_cases ex : x = o
      · rw [if_pos ex] at e
        cases e
      · rw [if_neg ex] at e
        exact h.no x e
    · intro x hx
      have := h.ow x hx
      rw [if_neg (ne x this.1)]
      exact ⟨hasA_put.mpr (.inl this.1), this.2⟩
    · intro x hx
      rcases List.mem_append.mp hx with hx | hx
      · have := h.on x hx
        rw [if_neg (ne x this.1)]
        exact ⟨hasA_put.mpr (.inl this.1), this.2⟩
      · rw [List.mem_singleton] at hx
        rw [if_pos hx]
        exact ⟨hasA_put.mpr (.inr hx), rfl⟩
    · intro x hx hn
      rcases hasA_put.mp hx with hx | hx
      · rw [if_neg (ne x hx)]
        exact h.le x hx fun z => hn (List.mem_append_left _ z)
      · exact absurd (List.mem_append_right _ (List.mem_singleton.mpr hx)) hn
    · intro x hx hw hn y hy hs
      rcases hasA_put.mp hx with hx | hx
      · have := h.cl x hx hw (fun z => hn (List.mem_append_left _ z)) y hy hs
        rw [if_neg (ne x hx), if_neg (ne y this.1)]
        exact ⟨hasA_put.mpr (.inl this.1), this.2⟩
      · exact absurd (List.mem_append_right _ (List.mem_singleton.mpr hx)) hn
    · intro hx
      rcases List.mem_append.mp hx with hx | hx
      · exact hcs hx
      · rw [List.mem_singleton] at hx
        exact ne c hc hx
  · rw [if_neg hv]
    refine ⟨lev, h, fun _ _ => rfl, fun hs => ?_, hcs⟩
    have ho' : hasA s.1 o = true := by
      cases e : hasA s.1 o with
      | true => rfl
      | false => exact absurd ⟨e, hs⟩ hv
    refine ⟨ho', ?_⟩
    by_cases hm : o ∈ s.2
    · exact Nat.le_of_eq (h.on o hm).2
    · have := h.le o ho' hm
      omega
theorem Lv.visits {wt : List Nat} {c : Nat} : ∀ {os : List Nat} {s : Ahd × List Nat} {lev : Nat → Nat}, Lv ties sh b d wt s lev → hasA s.1 c = true → lev c = d → c ∉ s.2 → (∀ o ∈ os, o ∈ ties.getD c []) →
    ∃ lev' : Nat → Nat, Lv ties sh b d wt (os.foldl (visit1 sh c) s) lev' ∧ (∀ x, hasA s.1 x = true → lev' x = lev x) ∧ (∀ o ∈ os, sh o = false → hasA (os.foldl (visit1 sh c) s).1 o = true ∧ lev' o ≤ d + 1) ∧ c ∉ (os.foldl (visit1 sh c) s).2
  | [], s, lev, h, _, _, hcs, _ => ⟨lev, h, fun _ _ => rfl, (fun o ho => nomatch ho), hcs⟩
  | o :: os, s, lev, h, hc, ec, hcs, ho => by
    obtain ⟨l1, h1, k1, v1, n1⟩ := h.visit hc ec (ho o List.mem_cons_self) hcs
    obtain ⟨l2, h2, k2, v2, n2⟩ := h1.visits (os := os) (visit1_has hc) ((k1 c hc).trans ec) n1 fun x hx => ho x (List.mem_cons_of_mem _ hx)
    refine ⟨l2, h2, fun x hx => (k2 x (visit1_has hx)).trans (k1 x hx), fun x hx hs => ?_, n2⟩
    rcases List.mem_cons.mp hx with rfl | hx
    · have := v1 hs
      exact ⟨visits_has (s := visit1 sh c s x) this.1, by rw [k2 x this.1]; exact this.2⟩
    · exact v2 x hx hs
theorem Lv.wave : ∀ {wt : List Nat} {s : Ahd × List Nat} {lev : Nat → Nat}, Lv ties sh b d wt s lev → (∀ c ∈ wt, c ∉ s.2) → ∃ lev' : Nat → Nat, Lv ties sh b d [] (wt.foldl (visitC ties sh) s) lev'
  | [], s, lev, h, _ => ⟨lev, h⟩
  | c :: wt, s, lev, h, hn => by
    have hc := h.ow c List.mem_cons_self
    obtain ⟨l1, h1, k1, v1, n1⟩ := h.visits (c := c) (os := ties.getD c []) hc.1 hc.2 (hn c List.mem_cons_self) fun o ho => ho
    have h2 : Lv ties sh b d wt (visitC ties sh s c) l1 := ⟨h1.b0, h1.hb, h1.up, h1.no, fun x hx => h1.ow x (List.mem_cons_of_mem _ hx), h1.on, h1.le, fun x hx hw hn o ho hs => by
      by_cases e : x = c
      · subst e
        have := v1 o ho hs
        rw [k1 x hc.1, hc.2]
        exact this
      · exact h1.cl x hx (fun z => (List.mem_cons.mp z).elim e hw) hn o ho hs⟩
    refine h2.wave fun x hx hm => ?_
    have a := (h2.on x hm).2
    have b := (h2.ow x hx).2
    omega
theorem spreadG_lv : ∀ {f : Nat} {d : Nat} {A : Ahd} {wt : List Nat} {lev : Nat → Nat} {n : Nat}, Lv ties sh b d wt (A, []) lev → WfA n A → (∀ c o, o ∈ ties.getD c [] → o < n) → (wt ≠ [] → n + 1 ≤ f + A.length) → ∃ (d' : Nat) (lev' : Nat → Nat), Lv ties sh b d' [] (spreadG ties sh f A wt, []) lev'
  | f, d, A, wt, lev, n, h, wA, ht, hf => by
    by_cases e : wt = []
    · subst e
      rw [spreadG_nil]
      exact ⟨d, lev, h⟩
    · have hf := hf e
      have len := wA.len
      cases f with
      | zero => omega
      | succ f =>
        rw [spreadG_step e]
        obtain ⟨l1, h1⟩ := h.wave fun c _ hc => nomatch hc
        have w1 := waves_wf (sh := sh) (k := A.length) ht (s := (A, [])) (cs := wt) ⟨wA, rfl, fun c hc => by cases hc⟩ fun c hc => (h.ow c hc).1
        have h2 : Lv ties sh b (d + 1) (waveF ties sh A wt).2 ((waveF ties sh A wt).1, []) l1 := ⟨h1.b0, h1.hb, h1.up, h1.no, h1.on, (fun c hc => nomatch hc), (fun c hc _ => by
          by_cases hm : c ∈ (waveF ties sh A wt).2
          · exact Nat.le_of_eq (h1.on c hm).2
          · have := h1.le c hc hm
            omega), fun c hc hw _ o ho hs => h1.cl c hc (fun z => nomatch z) hw o ho hs⟩
        refine spreadG_lv h2 w1.wa ht fun ne => ?_
        have := w1.ln
        have hp := List.length_pos_iff.mpr ne
        have e1 : (waveF ties sh A wt).1.length = A.length + (waveF ties sh A wt).2.length := this
        omega
theorem spreadF_lv {n : Nat} (hb : b < n) (hn : ties.length = n) (ht : ∀ c o, o ∈ ties.getD c [] → o < n) : ∃ (d' : Nat) (lev' : Nat → Nat), Lv ties sh b d' [] (spreadF ties sh b, []) lev' := by
  have one : hasA [(b, none)] b = true := by
    unfold hasA lookA
    rw [if_pos rfl]
    rfl
  have only : ∀ x, hasA [(b, none)] x = true → x = b := fun x hx => by
    rw [hasA_iff] at hx
    simpa using hx
  refine spreadG_lv (d := 0) (lev := fun _ => 0) (n := n) ⟨rfl, one, fun c p e => ?_, fun c e => ?_, fun c hc => ?_, (fun c hc => nomatch hc), fun _ _ _ => Nat.le_refl _, fun c hc hw _ => ?_⟩ (.one hb) ht (fun _ => by rw [hn]; exact Nat.le_add_right _ _)
  · unfold lookA at e
    split at e
    · cases e
    · cases e
  · have : hasA [(b, none)] c = true := by unfold hasA; rw [e]; rfl
    exact only c this
  · rw [List.mem_singleton] at hc
    subst hc
    exact ⟨one, rfl⟩
  · exact absurd (List.mem_singleton.mpr (only c hc)) hw
/-- a spread comes just to where a way comes, and a way of the fewest cells is told -/
structure Spr (ties : List (List Nat)) (sh : Nat → Bool) (b n : Nat) (A : Ahd) (lev : Nat → Nat) : Prop where
  wf : WfA n A
  to : ∀ c, hasA A c = true → IsD ties sh b c (lev c)
  of : ∀ c k, Rch ties sh b k c → hasA A c = true
  b0 : lev b = 0
  up : ∀ c p, lookA A c = some (some p) → hasA A p = true ∧ lev c = lev p + 1 ∧ c ∈ ties.getD p [] ∧ sh c = false
  no : ∀ c, lookA A c = some none → c = b
  lt : ∀ c, hasA A c = true → lev c < A.length
theorem spreadF_spr {n : Nat} (hb : b < n) (hn : ties.length = n) (ht : ∀ c o, o ∈ ties.getD c [] → o < n) : ∃ lev : Nat → Nat, Spr ties sh b n (spreadF ties sh b) lev := by
  obtain ⟨d', lev, h⟩ := spreadF_lv (sh := sh) hb hn ht
  have wf : WfA n (spreadF ties sh b) := spreadG_wf ht (.one hb) fun c hc => by
    rw [List.mem_singleton] at hc
    subst hc
    unfold hasA lookA
    rw [if_pos rfl]
    rfl
  have of : ∀ c k, Rch ties sh b k c → hasA (spreadF ties sh b) c = true ∧ lev c ≤ k := by
    intro c k r
    induction r with
    | zero => exact ⟨h.hb, Nat.le_of_eq h.b0⟩
    | step r ho hs ih =>
      have := h.cl _ ih.1 (fun z => nomatch z) (fun z => nomatch z) _ ho hs
      exact ⟨this.1, by omega⟩
  have rc : ∀ (m c : Nat), lev c ≤ m → hasA (spreadF ties sh b) c = true → Rch ties sh b (lev c) c := by
    intro m
    induction m with
    | zero =>
      intro c hm hc
      obtain ⟨v, e⟩ := Option.isSome_iff_exists.mp (show (lookA (spreadF ties sh b) c).isSome = true from hc)
      cases v with
      | none =>
        rw [h.no c e, h.b0]
        exact .zero
      | some p =>
        have := (h.up c p e).2.1
        omega
    | succ m ih =>
      intro c hm hc
      obtain ⟨v, e⟩ := Option.isSome_iff_exists.mp (show (lookA (spreadF ties sh b) c).isSome = true from hc)
      cases v with
      | none =>
        rw [h.no c e, h.b0]
        exact .zero
      | some p =>
        have := h.up c p e
        rw [this.2.1]
        exact .step (ih p (by omega) this.1) this.2.2.1 this.2.2.2
  refine ⟨lev, wf, fun c hc => ⟨rc _ c (Nat.le_refl _) hc, fun k r => (of c k r).2⟩, fun c k r => (of c k r).1, h.b0, h.up, h.no, fun c hc => ?_⟩
  have ix : ∀ (i c : Nat) (v : Option Nat), (spreadF ties sh b)[i]? = some (c, v) → lev c ≤ i := by
    intro i
    induction i using Nat.strongRecOn with
    | _ i ih =>
      intro c v e
      have lk := lookA_get wf.nd e
      cases v with
      | none =>
        rw [h.no c lk, h.b0]
        exact Nat.zero_le _
      | some p =>
        obtain ⟨j, q, hj, ej⟩ := wf.up i c p e
        have := ih j hj p q ej
        have := (h.up c p lk).2.1
        omega
  obtain ⟨i, v, e, hi⟩ := hasA_get hc
  have := ix i c v e
  omega
/-- the way that a spread tells -/
structure WayOk (ties : List (List Nat)) (sh : Nat → Bool) (b e n d : Nat) (l : List Nat) : Prop where
  ln : l.length = d + 1
  h0 : l[0]? = some b
  hl : l[d]? = some e
  lt : ∀ c ∈ l, c < n
  sh : ∀ (k c : Nat), l[k + 1]? = some c → sh c = false
  nx : ∀ (k c p : Nat), l[k]? = some p → l[k + 1]? = some c → c ∈ ties.getD p []
theorem chain_ok {n : Nat} {A : Ahd} {lev : Nat → Nat} (h : Spr ties sh b n A lev) : ∀ (f e : Nat), hasA A e = true → lev e ≤ f → WayOk ties sh b e n (lev e) (chainG f A e).reverse := by
  intro f
  induction f with
  | zero =>
    intro e he hf
    obtain ⟨v, ev⟩ := Option.isSome_iff_exists.mp (show (lookA A e).isSome = true from he)
    have eb : e = b := by
      cases v with
      | none => exact h.no e ev
      | some p =>
        have := (h.up e p ev).2.1
        omega
    subst eb
    rw [h.b0]
    have hlt := h.wf.lt _ (List.mem_map.mp (hasA_iff.mp he)).choose_spec.1
    rw [(List.mem_map.mp (hasA_iff.mp he)).choose_spec.2] at hlt
    exact ⟨rfl, rfl, rfl, fun c hc => by rw [show (chainG 0 A e).reverse = [e] from rfl, List.mem_singleton] at hc; rw [hc]; exact hlt, fun k c hk => by simp [chainG] at hk, fun k c p _ hk => by simp [chainG] at hk⟩
  | succ f ih =>
    intro e he hf
    have hlt : e < n := by
      have hlt := h.wf.lt _ (List.mem_map.mp (hasA_iff.mp he)).choose_spec.1
      rwa [(List.mem_map.mp (hasA_iff.mp he)).choose_spec.2] at hlt
    obtain ⟨v, ev⟩ := Option.isSome_iff_exists.mp (show (lookA A e).isSome = true from he)
    cases v with
    | none =>
      have eb := h.no e ev
      subst eb
      rw [chainG_end ev, h.b0]
      exact ⟨rfl, rfl, rfl, fun c hc => by rw [show [e].reverse = [e] from rfl, List.mem_singleton] at hc; rw [hc]; exact hlt, fun k c hk => by simp at hk, fun k c p _ hk => by simp at hk⟩
    | some p =>
      have u := h.up e p ev
      have w := ih p u.1 (by omega)
      rw [chainG_more ev, List.reverse_cons, u.2.1]
      have wl := w.ln
      generalize (chainG f A p).reverse = l at w wl
      refine ⟨by rw [List.length_append, wl]; rfl, by rw [List.getElem?_append_left (by omega)]; exact w.h0, by rw [List.getElem?_append_right (by omega), wl, Nat.sub_self]; rfl, fun c hc => ?_, fun k c hk => ?_, fun k c q hq hk => ?_⟩
      · rcases List.mem_append.mp hc with hc | hc
        · exact w.lt c hc
        · rw [List.mem_singleton] at hc
          rw [hc]
          exact hlt
      · by_cases hk1 : k + 1 < l.length
        · rw [List.getElem?_append_left hk1] at hk
          exact w.sh k c hk
        · rw [List.getElem?_append_right (by omega)] at hk
          have : k + 1 - l.length = 0 := by
            cases hz : k + 1 - l.length with
            | zero => rfl
            | succ z => rw [hz] at hk; simp at hk
          rw [this] at hk
          simp at hk
          rw [← hk]
          exact u.2.2.2
      · by_cases hk1 : k + 1 < l.length
        · rw [List.getElem?_append_left hk1] at hk
          rw [List.getElem?_append_left (by omega)] at hq
          exact w.nx k c q hq hk
        · rw [List.getElem?_append_right (by omega)] at hk
          have : k + 1 - l.length = 0 := by
            cases hz : k + 1 - l.length with
            | zero => rfl
            | succ z => rw [hz] at hk; simp at hk
          rw [this] at hk
          simp at hk
          rw [← hk]
          have e1 : k = lev p := by omega
          rw [List.getElem?_append_left (by omega), e1, w.hl] at hq
          cases hq
          exact u.2.2.1
theorem wayF_ok {n : Nat} {A : Ahd} {lev : Nat → Nat} (h : Spr ties sh b n A lev) (e : Nat) : (wayF A e = none ∧ ∀ k, ¬ Rch ties sh b k e) ∨ ∃ l d, wayF A e = some l ∧ IsD ties sh b e d ∧ WayOk ties sh b e n d l := by
  unfold wayF
  cases he : hasA A e with
  | false =>
    refine .inl ⟨if_neg Bool.false_ne_true, fun k r => ?_⟩
    rw [h.of e k r] at he
    cases he
  | true => exact .inr ⟨_, _, if_pos rfl, h.to e he, chain_ok h _ e he (Nat.le_of_lt (h.lt e he))⟩
end
/-! ### the law's own waves -/
theorem flat_rep {α : Type} (n : Nat) (x : α) : (List.replicate n [x]).flatten = List.replicate n x := by
  induction n with
  | zero => rfl
  | succ n ih => rw [List.replicate_succ, List.flatten_cons, ih, List.replicate_succ]; rfl
theorem ixN_nat {n i : Nat} (h : i < n) : ixN n (i : Int) = some i := by
  unfold ixN
  rw [if_pos (by omega), if_pos (by omega), Int.toNat_natCast]
structure WvOk (ties : List (List Nat)) (sh : Nat → Bool) (b n : Nat) (fd : List (Option Nat)) : Prop where
  ln : fd.length = n
  at_ : ∀ c, c < n → ∀ d, fd.getD c none = some d ↔ IsD ties sh b c d
/-- found: all that are at most i steps away -/
structure WvAt (ties : List (List Nat)) (sh : Nat → Bool) (b n i : Nat) (fd : List (Option Nat)) : Prop where
  ln : fd.length = n
  at_ : ∀ c, c < n → ∀ d, fd.getD c none = some d ↔ IsD ties sh b c d ∧ d ≤ i
/-- amid wave i: the cells of L are done -/
structure WvIn (ties : List (List Nat)) (sh : Nat → Bool) (b n i : Nat) (L : List Nat) (fd : List (Option Nat)) : Prop where
  ln : fd.length = n
  so : ∀ c, c < n → ∀ d, fd.getD c none = some d → IsD ties sh b c d ∧ d ≤ i + 1
  le : ∀ c, c < n → ∀ d, IsD ties sh b c d → d ≤ i → fd.getD c none = some d
  dn : ∀ c ∈ L, ∀ o ∈ ties.getD c [], sh o = false → fd.getD o none ≠ none
section
variable {ties : List (List Nat)} {sh : Nat → Bool} {b n i : Nat}
theorem getD_set {fd : List (Option Nat)} {o c : Nat} {v : Option Nat} (h : o < fd.length) : (fd.set o v).getD c none = if c = o then v else fd.getD c none := by
  rw [List.getD_eq_getElem?_getD, List.getD_eq_getElem?_getD, List.getElem?_set]
  by_cases e : c = o
  · subst e
    rw [if_pos rfl, if_pos h, if_pos rfl]
    rfl
  · rw [if_neg (fun z => e z.symm), if_neg e]
theorem isD_zero : IsD ties sh b b 0 := ⟨.zero, fun _ _ => Nat.zero_le _⟩
theorem rch_zero {c : Nat} (h : Rch ties sh b 0 c) : c = b := by
  cases h
  rfl
theorem wv_zero (hb : b < n) : WvAt ties sh b n 0 ((List.replicate n none).set b (some 0)) := by
  refine ⟨by rw [List.length_set, List.length_replicate], fun c hc d => ?_⟩
  rw [getD_set (by rw [List.length_replicate]; exact hb)]
  by_cases e : c = b
  · subst e
    rw [if_pos rfl]
    constructor
    · intro h
      cases h
      exact ⟨isD_zero, Nat.le_refl _⟩
    · rintro ⟨h, h0⟩
      congr 1
      omega
  · rw [if_neg e]
    constructor
    · intro h
      rw [List.getD_eq_getElem?_getD, List.getElem?_replicate] at h
      split at h <;> cases h
    · rintro ⟨h, h0⟩
      have : d = 0 := by omega
      subst this
      exact absurd (rch_zero h.1) e
theorem wv_end {fd : List (Option Nat)} {A : Ahd} {lev : Nat → Nat} (w : WvAt ties sh b n n fd) (s : Spr ties sh b n A lev) : WvOk ties sh b n fd := by
  refine ⟨w.ln, fun c hc d => ⟨fun h => ((w.at_ c hc d).mp h).1, fun h => (w.at_ c hc d).mpr ⟨h, ?_⟩⟩⟩
  have ha := s.of c d h.1
  have e := h.uniq (s.to c ha)
  have := s.lt c ha
  have := s.wf.len
  omega
theorem wv_in {fd : List (Option Nat)} (w : WvAt ties sh b n i fd) : WvIn ties sh b n i [] fd :=
  ⟨w.ln, fun c hc d h => ⟨((w.at_ c hc d).mp h).1, by have := ((w.at_ c hc d).mp h).2; omega⟩, fun c hc d h hd => (w.at_ c hc d).mpr ⟨h, hd⟩, fun c hc => nomatch hc⟩
/-- the last step of a way -/
theorem rch_last {k c : Nat} (h : Rch ties sh b (k + 1) c) : ∃ p, Rch ties sh b k p ∧ c ∈ ties.getD p [] ∧ sh c = false := by
  cases h with
  | step h ho hs => exact ⟨_, h, ho, hs⟩
theorem wv_next {L : List Nat} {fd : List (Option Nat)} (w : WvIn ties sh b n i L fd) (hL : ∀ c, c < n → IsD ties sh b c i → c ∈ L) (ht : ∀ k c, Rch ties sh b k c → c < n) : WvAt ties sh b n (i + 1) fd := by
  refine ⟨w.ln, fun c hc d => ⟨w.so c hc d, fun ⟨h, hd⟩ => ?_⟩⟩
  by_cases hi : d ≤ i
  · exact w.le c hc d h hi
  · have : d = i + 1 := by omega
    subst this
    obtain ⟨p, rp, hp, hs⟩ := rch_last h.1
    have dp : IsD ties sh b p i := ⟨rp, fun k rk => by
      have := h.2 _ (.step rk hp hs)
      omega⟩
    have ne := w.dn p (hL p (ht _ _ rp) dp) c hp hs
    cases e : fd.getD c none with
    | none => exact absurd e ne
    | some x => rw [h.uniq (w.so c hc x e).1]
/-- one neighbour of a cell of the wave -/
theorem wv_see {L : List Nat} {fd : List (Option Nat)} {c o : Nat} (w : WvIn ties sh b n i L fd) (dc : IsD ties sh b c i) (ho : o ∈ ties.getD c []) (hs : sh o = false) (hn : fd.getD o none = none) (hl : o < n) : WvIn ties sh b n i L (fd.set o (some (i + 1))) := by
  have hlen : o < fd.length := by rw [w.ln]; exact hl
  have ro : Rch ties sh b (i + 1) o := .step dc.1 ho hs
  have dO : IsD ties sh b o (i + 1) := ⟨ro, fun k rk => by
    refine Nat.not_lt.mp fun z => ?_
    -- a shorter way would have been found
    have : ∃ d, IsD ties sh b o d ∧ d ≤ k := by
      have : ∀ m, (∃ k, k ≤ m ∧ Rch ties sh b k o) → ∃ d, IsD ties sh b o d ∧ d ≤ m := by
        intro m
        induction m with
        | zero =>
          rintro ⟨k, hk, r⟩
          have : k = 0 := by omega
          subst this
          exact ⟨0, ⟨r, fun _ _ => Nat.zero_le _⟩, Nat.le_refl _⟩
        | succ m ih =>
          rintro ⟨k, hk, r⟩
          by_cases h : ∃ k, k ≤ m ∧ Rch ties sh b k o
          · obtain ⟨d, a, b⟩ := ih h
            exact ⟨d, a, by omega⟩
          · have : k = m + 1 := by
              refine Classical.byContradiction fun z => h ⟨k, by omega, r⟩
            subst this
            exact ⟨m + 1, ⟨r, fun j rj => Nat.not_lt.mp fun z => h ⟨j, by omega, rj⟩⟩, Nat.le_refl _⟩
      exact this k ⟨k, Nat.le_refl _, rk⟩
    obtain ⟨d, hd, hdk⟩ := this
    have := w.le o hl d hd (by omega)
    rw [hn] at this
    cases this⟩
  refine ⟨by rw [List.length_set]; exact w.ln, fun x hx d h => ?_, fun x hx d h hd => ?_, fun x hx y hy hs => ?_⟩
  · rw [getD_set hlen] at h
    by_cases e : x = o
    · rw [if_pos e] at h
      cases h
      subst e
      exact ⟨dO, Nat.le_refl _⟩
    · rw [if_neg e] at h
      exact w.so x hx d h
  · rw [getD_set hlen]
    by_cases e : x = o
    · subst e
      have := h.uniq dO
      omega
    · rw [if_neg e]
      exact w.le x hx d h hd
  · rw [getD_set hlen]
    by_cases e : y = o
    · rw [if_pos e]
      exact fun z => nomatch z
    · rw [if_neg e]
      exact w.dn x hx y hy hs
theorem wv_done {L : List Nat} {fd : List (Option Nat)} {c : Nat} (w : WvIn ties sh b n i L fd) (h : ∀ o ∈ ties.getD c [], sh o = false → fd.getD o none ≠ none) : WvIn ties sh b n i (c :: L) fd :=
  ⟨w.ln, w.so, w.le, fun x hx => (List.mem_cons.mp hx).elim (fun e => by rw [e]; exact h) (w.dn x)⟩
end
/-! ### the least pair without a way -/
def barB (R : Rws) (r s : Nat) : Bool := !hasA (metF R ((ofF R 72).getD r 0) (othF R r)) ((ofF R 83).getD s 0)
def FBar (R : Rws) : Option (Nat × Nat) → Prop
  | none => ∀ r s, r < (ofF R 72).length → s < (ofF R 83).length → barB R r s = false
  | some p => p.1 < (ofF R 72).length ∧ p.2 < (ofF R 83).length ∧ barB R p.1 p.2 = true ∧ (∀ r s, r < p.1 → s < (ofF R 83).length → barB R r s = false) ∧ ∀ s, s < p.2 → barB R p.1 s = false
theorem FBar.uniq {R : Rws} {o o' : Option (Nat × Nat)} (h : FBar R o) (h' : FBar R o') : o = o' := by
  cases o with
  | none => cases o' with
    | none => rfl
    | some p =>
      have := h p.1 p.2 h'.1 h'.2.1
      rw [h'.2.2.1] at this
      cases this
  | some q => cases o' with
    | none =>
      have := h' q.1 q.2 h.1 h.2.1
      rw [h.2.2.1] at this
      cases this
    | some p =>
      obtain ⟨a1, a2, a3, a4, a5⟩ := h
      obtain ⟨b1, b2, b3, b4, b5⟩ := h'
      have e1 : q.1 = p.1 := by
        rcases Nat.lt_trichotomy q.1 p.1 with z | z | z
        · rw [b4 _ _ z a2] at a3; cases a3
        · exact z
        · rw [a4 _ _ z b2] at b3; cases b3
      have e2 : q.2 = p.2 := by
        rcases Nat.lt_trichotomy q.2 p.2 with z | z | z
        · rw [← e1] at b5; rw [b5 _ z] at a3; cases a3
        · exact z
        · rw [e1] at a5; rw [a5 _ z] at b3; cases b3
      rw [Prod.ext e1 e2]
theorem FBar.ex (R : Rws) : ∃ o, FBar R o := by
  by_cases h : ∃ r, ∃ s, r < (ofF R 72).length ∧ s < (ofF R 83).length ∧ barB R r s = true
  · have key : ∀ m, (∃ r, r ≤ m ∧ ∃ s, r < (ofF R 72).length ∧ s < (ofF R 83).length ∧ barB R r s = true) → ∃ o, FBar R o := by
      intro m
      induction m with
      | zero =>
        rintro ⟨r, hr, s, h1, h2, h3⟩
        have : r = 0 := by omega
        subst this
        have inner : ∀ k, (∃ s, s ≤ k ∧ s < (ofF R 83).length ∧ barB R 0 s = true) → ∃ s, s < (ofF R 83).length ∧ barB R 0 s = true ∧ ∀ t, t < s → barB R 0 t = false := by
          intro k
          induction k with
          | zero =>
            rintro ⟨s, hs, a, b⟩
            have : s = 0 := by omega
            subst this
            exact ⟨0, a, b, fun t h => absurd h (Nat.not_lt_zero _)⟩
          | succ k ih =>
            rintro ⟨s, hs, a, b⟩
            by_cases h : ∃ s, s ≤ k ∧ s < (ofF R 83).length ∧ barB R 0 s = true
            · exact ih h
            · refine ⟨s, a, b, fun t ht => ?_⟩
              cases e : barB R 0 t with
              | false => rfl
              | true => exact absurd ⟨t, by omega, by omega, e⟩ h
        obtain ⟨s, a, b, c⟩ := inner s ⟨s, Nat.le_refl _, h2, h3⟩
        exact ⟨some (0, s), h1, a, b, fun r t h => absurd h (Nat.not_lt_zero _), c⟩
      | succ m ih =>
        rintro ⟨r, hr, s, h1, h2, h3⟩
        by_cases h : ∃ r, r ≤ m ∧ ∃ s, r < (ofF R 72).length ∧ s < (ofF R 83).length ∧ barB R r s = true
        · exact ih h
        · have inner : ∀ k, (∃ s, s ≤ k ∧ s < (ofF R 83).length ∧ barB R r s = true) → ∃ s, s < (ofF R 83).length ∧ barB R r s = true ∧ ∀ t, t < s → barB R r t = false := by
            intro k
            induction k with
            | zero =>
              rintro ⟨s, hs, a, b⟩
              have : s = 0 := by omega
              subst this
              exact ⟨0, a, b, fun t h => absurd h (Nat.not_lt_zero _)⟩
            | succ k ih =>
              rintro ⟨s, hs, a, b⟩
              by_cases h : ∃ s, s ≤ k ∧ s < (ofF R 83).length ∧ barB R r s = true
              · exact ih h
              · refine ⟨s, a, b, fun t ht => ?_⟩
                cases e : barB R r t with
                | false => rfl
                | true => exact absurd ⟨t, by omega, by omega, e⟩ h
          obtain ⟨s, a, b, c⟩ := inner s ⟨s, Nat.le_refl _, h2, h3⟩
          refine ⟨some (r, s), h1, a, b, fun q t hq ht => ?_, c⟩
          cases e : barB R q t with
          | false => rfl
          | true => exact absurd ⟨q, by have : q < r := hq; omega, t, by have : q < r := hq; omega, ht, e⟩ h
    obtain ⟨r, s, h1, h2, h3⟩ := h
    exact key r ⟨r, Nat.le_refl _, s, h1, h2, h3⟩
  · refine ⟨none, fun r s h1 h2 => ?_⟩
    cases e : barB R r s with
    | false => rfl
    | true => exact absurd ⟨r, s, h1, h2, e⟩ h
/-- the waves tell what a spread tells -/
theorem wv_met {R : Rws} {b : Nat} {l : List Nat} {fd : List (Option Nat)} (hb : b < (spotsF R).length) (w : WvOk (tiesF (spotsF R)) (fun o => decide (o ∈ l)) b (spotsF R).length fd) {c : Nat} (hc : c < (spotsF R).length) : (fd.getD c none).isSome = hasA (metF R b l) c := by
  obtain ⟨lev, s⟩ := spreadF_spr (sh := fun o => decide (o ∈ l)) hb (ties_len (spotsF R)) fun c o => ties_lt
  rw [Bool.eq_iff_iff]
  constructor
  · intro h
    obtain ⟨d, e⟩ := Option.isSome_iff_exists.mp h
    exact s.of c d ((w.at_ c hc d).mp e).1
  · intro h
    rw [(w.at_ c hc (lev c)).mpr (s.to c h)]
    rfl
/-! ### comprehensions that change the store -/
theorem comp_inv {α : Type} {b : BW} {mt : MT} {me : ME} {σ : Env} {vs : List Nat} {gd : Store → Prop} {Q : List Dt → Store → Prop} (F : α → Dt) (J : Nat → List Dt → Store → Prop) : ∀ (xs : List α) (i : Nat) (acc : List Dt) (S : Store),
    (∀ j x, j < i + xs.length → x ∈ xs → ∀ acc S, J j acc S → gd S ∧ ∃ σ1, b (F x) (wipeW σ vs) = some σ1 ∧ ∀ N : List Dt → Store → Prop, (∀ acc' S', J (j + 1) acc' S' → N acc' S') → mt σ1 S (fun c S2 => br c (me σ1 S2 (fun y S3 => acc.length < sizeLine ∧ N (acc ++ [y]) S3) (fun _ _ => False)) (N acc S2)) (fun _ _ => False)) →
    J i acc S → (∀ acc S, J (i + xs.length) acc S → gd S ∧ Q acc S) → compW b mt me σ vs gd Q (xs.map F) acc S
  | [], i, acc, S, _, j, e => by
    rw [List.map_nil]
    unfold compW
    exact e acc S j
  | x :: xs, i, acc, S, h, j, e => by
    rw [List.map_cons]
    unfold compW
    obtain ⟨g, σ1, eb, hN⟩ := h i x (by rw [List.length_cons]; omega) List.mem_cons_self acc S j
    refine ⟨g, ?_⟩
    rw [eb]
    exact hN (fun acc' S' => compW b mt me σ vs gd Q (xs.map F) acc' S') fun acc' S' j' => comp_inv F J xs (i + 1) acc' S' (fun k y hk hy => h k y (by rw [List.length_cons]; omega) (List.mem_cons_of_mem _ hy)) j' (fun acc S k => e acc S (by rw [List.length_cons, show i + (xs.length + 1) = i + 1 + xs.length by omega]; exact k))
/-! ### lots that bar -/
theorem ascB_iff {l : List Nat} : ascB l = true ↔ ∀ k, k + 1 < l.length → l.getD k 0 < l.getD (k + 1) 0 := by
  unfold ascB
  rw [List.all_eq_true]
  constructor
  · intro h k hk
    have h1 : k < l.length := by omega
    have : (l[k], l[k + 1]) ∈ l.zip l.tail := by
      refine List.mem_of_getElem? (i := k) ?_
      rw [List.getElem?_zip_eq_some]
      exact ⟨List.getElem?_eq_getElem h1, by rw [List.getElem?_tail]; exact List.getElem?_eq_getElem hk⟩
    have := h _ this
    rw [decide_eq_true_iff] at this
    rw [getD_get h1, getD_get hk]
    exact this
  · rintro h ⟨a, b⟩ hp
    obtain ⟨k, ek⟩ := List.getElem?_of_mem hp
    rw [List.getElem?_zip_eq_some, List.getElem?_tail] at ek
    obtain ⟨e1, e2⟩ := ek
    obtain ⟨h1, e1⟩ := List.getElem?_eq_some_iff.mp e1
    obtain ⟨h2, e2⟩ := List.getElem?_eq_some_iff.mp e2
    have := h k h2
    rw [getD_get h1, getD_get h2, e1, e2] at this
    exact decide_eq_true this
theorem ascB_of {l : List Nat} (h : l.Pairwise (· < ·)) : ascB l = true := ascB_iff.mpr fun k hk => by
  rw [getD_get (by omega), getD_get hk]
  exact List.pairwise_iff_getElem.mp h k (k + 1) (by omega) hk (by omega)
theorem ofF_asc (R : Rws) (s : Nat) : (ofF R s).Pairwise (· < ·) := by
  unfold ofF
  rw [range_filter (0, 0) (spotsF R) (fun p => decide (signF R p = s))]
  exact List.pairwise_lt_range.filter _
theorem othF_asc (R : Rws) (r : Int) : (othF R r).Pairwise (· < ·) := by
  rw [othF_eq, List.pairwise_map]
  refine List.Pairwise.imp_of_mem ?_ ((List.pairwise_lt_range (n := (ofF R 72).length)).filter fun (k : Nat) => !decide ((k : Int) = r))
  intro a b ha hb hab
  have h1 := List.mem_range.mp (List.mem_filter.mp ha).1
  have h2 := List.mem_range.mp (List.mem_filter.mp hb).1
  rw [getD_get h1, getD_get h2]
  exact List.pairwise_iff_getElem.mp (ofF_asc R 72) a b h1 h2 hab
theorem adj_symm (p q : Nat × Nat) : adjP p q = adjP q p := by
  unfold adjP
  rw [Bool.eq_iff_iff, decide_eq_true_iff, decide_eq_true_iff]
  omega
theorem tie_symm {sp : List (Nat × Nat)} {c o : Nat} (h : o ∈ (tiesF sp).getD c []) : c ∈ (tiesF sp).getD o [] := by
  have ho := ties_lt h
  have hc : c < sp.length := by
    refine Nat.not_le.mp fun z => ?_
    rw [List.getD_eq_getElem?_getD, List.getElem?_eq_none (by rw [ties_len]; exact z)] at h
    cases h
  rw [tie_at hc] at h
  rw [tie_at ho]
  unfold tieF at h ⊢
  rw [List.mem_filter, List.mem_range] at h ⊢
  exact ⟨hc, by rw [adj_symm]; exact h.2⟩
theorem lotOf_lot {n : Nat} {l : List Nat} (h : ∀ c ∈ l, c < n) (ha : ascB l = true) : lotOf n (.tup (lotW l)) = some l := by
  rw [lotOf_eq, natsOf_lot h]
  dsimp only
  rw [ha]
  rfl
/-- what barring tells bars -/
theorem barF_bars {R : Rws} {r s : Nat} {l : List Nat} (hr : r < (ofF R 72).length) (h : barF R r s = some l) : isBarF R r s (.tup (lotW l)) = true ∧ (∀ c ∈ l, c ∈ othF R r) ∧ l.length ≤ (othF R r).length := by
  unfold barF at h
  split at h
  · cases h
  · rename_i hno
    injection h with h
    have hm : ∀ c ∈ l, c ∈ othF R r := fun c hc => by
      rw [← h] at hc
      exact (List.mem_filter.mp hc).1
    refine ⟨?_, hm, by rw [← h]; exact List.length_filter_le _ _⟩
    unfold isBarF
    rw [lotOf_lot (fun c hc => othF_lt (hm c hc)) (ascB_of (by rw [← h]; exact (othF_asc R r).filter _))]
    dsimp only
    rw [List.all_eq_true.mpr fun c hc => decide_eq_true (hm c hc), Bool.true_and, Bool.not_eq_true']
    have hrl := ofF_lt (getD_mem (d := 0) hr)
    obtain ⟨lev, s1⟩ := spreadF_spr (sh := fun o => decide (o ∈ l)) hrl (ties_len (spotsF R)) fun c o => ties_lt
    obtain ⟨lev2, s2⟩ := spreadF_spr (sh := fun o => decide (o ∈ othF R r)) hrl (ties_len (spotsF R)) fun c o => ties_lt
    have key : ∀ k c, Rch (tiesF (spotsF R)) (fun o => decide (o ∈ l)) ((ofF R 72).getD r 0) k c → Rch (tiesF (spotsF R)) (fun o => decide (o ∈ othF R r)) ((ofF R 72).getD r 0) k c := by
      intro k c hk
      induction hk with
      | zero => exact .zero
      | step hp ho hs ih =>
        rename_i k p o
        refine .step ih ho ?_
        have hs : decide (o ∈ l) = false := hs
        rw [decide_eq_false_iff_not] at hs
        show decide (o ∈ othF R r) = false
        rw [decide_eq_false_iff_not]
        intro hoth
        apply hs
        rw [← h, List.mem_filter]
        refine ⟨hoth, ?_⟩
        rw [List.any_eq_true]
        have := tie_symm ho
        rw [tie_at (ties_lt ho)] at this
        exact ⟨p, this, s2.of p k ih⟩
    cases e : hasA (metF R ((ofF R 72).getD r 0) l) ((ofF R 83).getD s 0) with
    | false => rfl
    | true =>
      exfalso
      apply hno
      exact s2.of _ _ (key _ _ (s1.to _ e).1)
/-- the law's own look at a lot -/
def okAt (xs : List Dt) (k : Nat) : Bool := match xs.getD k .non with
  | .int i => if k = 0 then true else match xs.getD (k - 1) .non with
    | .int j => decide (j < i)
    | _ => false
  | _ => false
def isAsc : Dt → Bool
  | .tup xs => (List.range xs.length).all (okAt xs)
  | _ => false
theorem asc_int {xs : List Dt} {k : Nat} (h : okAt xs k = true) : ∃ i : Int, xs.getD k .non = .int i := by
  unfold okAt at h
  split at h
  · rename_i i e
    exact ⟨i, e⟩
  · cases h
theorem asc_ints {xs : List Dt} (h : (List.range xs.length).all (okAt xs) = true) : ∃ zs : List Int, xs = zs.map Dt.int := by
  rw [List.all_eq_true] at h
  refine ⟨xs.map fun w => match w with | .int i => i | _ => 0, ?_⟩
  rw [List.map_map]
  conv => lhs; rw [← List.map_id xs]
  refine List.map_congr_left fun w hw => ?_
  obtain ⟨k, hk, e⟩ := List.mem_iff_getElem.mp hw
  obtain ⟨i, ei⟩ := asc_int (h k (List.mem_range.mpr hk))
  rw [getD_get hk, e] at ei
  subst ei
  rfl
theorem asc_lot (l : List Nat) : isAsc (.tup (lotW l)) = ascB l := by
  show (List.range (lotW l).length).all (okAt (lotW l)) = ascB l
  have at_ : ∀ k, k < l.length → (lotW l).getD k .non = .int (l.getD k 0 : Nat) := fun k hk => by
    rw [getD_get (by rw [lotW_len]; exact hk), getD_get hk]
    unfold lotW
    rw [List.getElem_map]
  rw [Bool.eq_iff_iff, ascB_iff, List.all_eq_true, lotW_len]
  constructor
  · intro h k hk
    have := h (k + 1) (List.mem_range.mpr hk)
    unfold okAt at this
    rw [at_ _ hk] at this
    dsimp only at this
    rw [if_neg (by omega), Nat.add_sub_cancel, at_ k (by omega)] at this
    dsimp only at this
    rw [decide_eq_true_iff] at this
    omega
  · intro h k hk
    rw [List.mem_range] at hk
    unfold okAt
    rw [at_ _ hk]
    dsimp only
    by_cases k0 : k = 0
    · rw [if_pos k0]
    · rw [if_neg k0, at_ (k - 1) (by omega)]
      dsimp only
      rw [decide_eq_true_iff]
      have := h (k - 1) (by omega)
      rw [show k - 1 + 1 = k by omega] at this
      omega
/-- ints that are all among numbers -/
theorem ints_nats {zs : List Int} {l : List Nat} (h : ∀ z ∈ zs, ∃ c ∈ l, z = ((c : Nat) : Int)) : ∃ m : List Nat, zs.map Dt.int = lotW m ∧ ∀ c ∈ m, c ∈ l := by
  induction zs with
  | nil => exact ⟨[], rfl, fun c h => nomatch h⟩
  | cons z zs ih =>
    obtain ⟨m, e, hm⟩ := ih fun y hy => h y (List.mem_cons_of_mem _ hy)
    obtain ⟨c, hc, ez⟩ := h z List.mem_cons_self
    refine ⟨c :: m, by rw [List.map_cons, e, ez]; rfl, fun x hx => ?_⟩
    rcases List.mem_cons.mp hx with rfl | hx
    · exact hc
    · exact hm x hx
theorem isBarF_tup {R : Rws} {r s : Nat} {w : Dt} (h : isAsc w = false) : isBarF R r s w = false := by
  unfold isBarF
  cases e : lotOf (spotsF R).length w with
  | none => rfl
  | some l =>
    obtain ⟨rfl, hl⟩ := lotOf_some e
    rw [asc_lot] at h
    rw [lotOf_eq, natsOf_lot hl] at e
    dsimp only at e
    rw [h] at e
    cases e
theorem isBarF_out {R : Rws} {r s : Nat} {zs : List Int} (h : ∃ z ∈ zs, ¬ ∃ c ∈ othF R r, z = ((c : Nat) : Int)) : isBarF R r s (.tup (zs.map Dt.int)) = false := by
  unfold isBarF
  cases e : lotOf (spotsF R).length (.tup (zs.map Dt.int)) with
  | none => rfl
  | some l =>
    obtain ⟨e2, hl⟩ := lotOf_some e
    dsimp only
    obtain ⟨z, hz, hno⟩ := h
    have : l.all (fun c => decide (c ∈ othF R r)) = false := by
      rw [List.all_eq_false]
      injection e2 with e2
      have : Dt.int z ∈ lotW l := by
        rw [← e2]
        exact List.mem_map_of_mem hz
      unfold lotW at this
      obtain ⟨c, hc, ec⟩ := List.mem_map.mp this
      injection ec with ec
      refine ⟨c, hc, ?_⟩
      rw [decide_eq_true_iff]
      exact fun hm => hno ⟨c, hm, ec.symm⟩
    rw [this]
    rfl
theorem pl_lst_ints (zs : List Int) : pl (.lst (zs.map Dt.int)) = true := by
  unfold pl
  refine plL_of fun w h => ?_
  obtain ⟨i, _, rfl⟩ := List.mem_map.mp h
  rfl
theorem eqD_rows (R R' : Rws) : eqD (.tup (R.map rowS)) (.tup (R'.map rowS)) = decide (R = R') := by
  have key : ∀ R R' : Rws, eqDL (R.map rowS) (R'.map rowS) = decide (R = R') := by
    intro R
    induction R with
    | nil => intro R'; cases R' with
      | nil => rfl
      | cons r R' => rfl
    | cons r R ih => intro R'; cases R' with
      | nil => rfl
      | cons r' R' =>
        show (eqD (rowS r) (rowS r') && eqDL (R.map rowS) (R'.map rowS)) = _
        rw [ih, Bool.eq_iff_iff, Bool.and_eq_true, decide_eq_true_iff, decide_eq_true_iff, List.cons.injEq]
        have : eqD (rowS r) (rowS r') = decide ((⟨r.toArray⟩ : Str) = ⟨r'.toArray⟩) := rfl
        rw [this, decide_eq_true_iff]
        constructor
        · rintro ⟨a, b⟩
          exact ⟨rowS_inj (by unfold rowS; rw [a]), b⟩
        · rintro ⟨a, b⟩
          exact ⟨by rw [a], b⟩
  exact key R R'
theorem rows_fl {R : Rws} (h : GoodF R) : fl 60 (.tup (R.map rowS)) = true := by
  show (R.map rowS).all (fl 59) = true
  rw [List.all_eq_true]
  intro w hw
  obtain ⟨r, hr, rfl⟩ := List.mem_map.mp hw
  have h1 := h.wl r hr
  have h2 := h.w2
  have h3 := h.sg r hr
  show (r.toArray.all fun c => decide (c < 0x110000)) = true
  rw [Array.all_eq_true]
  intro i hi
  have hc : r.toArray[i] ∈ r := by
    rw [List.getElem_toArray]
    exact List.getElem_mem _
  have := h3 _ hc
  unfold isSg at this
  simp only [Bool.or_eq_true, beq_iff_eq] at this
  rw [decide_eq_true_iff]
  omega
theorem cutW_map {α β : Type} (f : α → β) (xs : List α) (lo hi : Option Int) : cutW (xs.map f) lo hi = (cutW xs lo hi).map f := by
  unfold cutW
  rw [List.length_map, List.map_take, List.map_drop]
theorem cutW_le {α : Type} (xs : List α) (lo hi : Option Int) : (cutW xs lo hi).length ≤ xs.length := by
  unfold cutW
  rw [List.length_take, List.length_drop]
  omega
end Dn

/-! own classes: isinstance, == -/
namespace Dn
open PySem PySem.Spec PyProof.Rows L2
section
variable {X : Cx} {E : WX}
/-- a class by its name -/
theorem je_gcls {x : Str} {C : Addr} {pos : Pos} (hg : Gl X x) (hm : X.mg x = some (.ref C)) (hd : (x == ("__debug__" : Str)) = false := by decide) : JE X E (.Name x pos) (mC (.ref C)) :=
  je_c (pe_glob (v := .ref C) hg hm rfl hd) fun P S H => rpRef
end
def tyNs : List String := ["NoneType", "bool", "int", "str", "tuple", "list", "dict"]
/-- what isinstance(_, C0) says of the built-in types, and of the classes of os -/
structure IsiC (K : Frg) (C0 : Addr) (os : List (Addr × Bool)) : Prop where
  ty : ∀ t ∈ tyNs, PySem.W.kitOne K (.type t) (.ref C0) = some false
  own : ∀ p ∈ os, Cls K p.1 ∧ PySem.W.findIn K (.ref p.1) "__class__" = some (some (.builtin "object.__class__")) ∧ PySem.W.specialIn K (.builtin "object.__class__") "__get__" = some (some (.builtin "getset_descriptor.__get__")) ∧
    PySem.W.takesIn K (.builtin "object.__class__") = some true ∧ PySem.W.mroIn K p.1 (.type "object") = some true ∧ PySem.W.kitOne K (.ref p.1) (.ref C0) = some p.2
/-- the class of an instance -/
def insOf (S : Store) : Dt → Option Addr
  | .ins C _ _ => some C
  | .ref a => match S a with
    | some (.ins C _ _) => some C
    | _ => none
  | _ => none
def pyIsiO (C0 : Addr) (os : List (Addr × Bool)) : OpN
  | [x, .ref C], S, Q => C = C0 ∧ match tyN S x with
    | some t => t ∈ tyNs ∧ Q (.bl false) S
    | none => match insOf S x with
      | some C1 => ∃ b, (C1, b) ∈ os ∧ Q (.bl b) S
      | none => False
  | _, _, _ => False
theorem insOf_of {K : Frg} {P : Hid} {S : Store} {H : Hp} (W : Wd K P S H) {w : Dt} {v : V} {C : Addr} (r : Rp K P S H w v) (h : insOf S w = some C) : ∃ a dx fs, v = .ref a ∧ H a = some (.ins C dx fs) := by
  cases w with
  | ins C1 ns ws =>
    cases h
    unfold Rp at r
    obtain ⟨a, dx, xs, rfl, fz, hz, rl⟩ := r
    exact ⟨a, dx, _, rfl, fz.1⟩
  | ref a =>
    rw [rp_ref] at r
    unfold insOf at h
    dsimp only at h
    split at h
    · rename_i C1 ns ws ea
      cases h
      obtain ⟨dx, xs, eh, hz, rl⟩ := W.sim a _ ea
      exact ⟨a, dx, _, r, eh⟩
    · cases h
  | _ => cases h
section
variable {X : Cx} {E : WX}
theorem c_isiO {C0 : Addr} {os : List (Addr × Bool)} (T : IsiC X.K C0 os) : CallR X (.builtin "isinstance") (rdN X.K (pyIsiO C0 os)) := by
  intro pins s σ H vs us Qv I rv h
  obtain ⟨P, S, ws, Q, W, r, g, nq⟩ := h
  unfold pyIsiO at g
  split at g
  · rename_i x C
    obtain ⟨v, u, rfl, r1, r2⟩ := r.two
    rw [rp_ref] at r2
    subst r2
    obtain ⟨rfl, g⟩ := g
    split at g
    · rename_i t et
      exact call_isi pins s σ H _ us Qv I rv ⟨v, _, _, _, false, rfl, .own _, tyN_of W r1 et, T.ty t g.1, nq.now W rpBl g.2⟩
    · split at g
      · rename_i C1 ei
        obtain ⟨b, hb, g⟩ := g
        obtain ⟨a, dx, fs, rfl, eh⟩ := insOf_of W r1 ei
        obtain ⟨c1, c2, c3, c4, c5, c6⟩ := T.own _ hb
        exact call_isi pins s σ H _ us Qv I rv ⟨_, _, _, _, b, rfl, .own _, .base (.ins eh c1 c2 c3 c4 c5), c6, nq.now W rpBl g⟩
      · exact g.elim
  · exact g.elim
/-- what stands behind an own == : built-in types, and the class itself -/
def EqC (K : Frg) (C0 : Addr) : Prop := ∀ t ∈ tyNs, PySem.W.notFirst K C0 (.type t) = true
def pyEqO (C0 : Addr) (ns0 : List Str) (G : Fw) : Op2 := fun w z S Q => isIns C0 ns0 w S (((∃ t, tyN S z = some t ∧ t ∈ tyNs) ∨ insOf S z = some C0) ∧ G [w, z] S (fun v S1 => match v with | .bl b => Q (.bl b) S1 | _ => False) (fun _ _ => False))
theorem o_eqO {C0 : Addr} {ns0 : List Str} {k : Nat} {ps : List Str} {G : Fw} (c : CalM X.prog X.w X.K X.mg X.base C0 "__eq__" k ps 2 G) (T : EqC X.K C0) (hr : Room k X.A) : OpR X (compareOp .Eq) (rd2 X.K (pyEqO C0 ns0 G)) := by
  intro pins s σ H x y v u Qv I rx ry q
  obtain ⟨P, S, w, z, Q, W, r1, r2, g, nq⟩ := q
  obtain ⟨f, fd, cl, hm, hb, F⟩ := c
  unfold pyEqO at g
  obtain ⟨⟨a, dx, xs, rfl, ea⟩, hz, g⟩ := isIns_of W r1 g
  cases (show v = Value.ref a from rx)
  obtain ⟨mA, J, _⟩ := ins_get I.hok ea
  obtain ⟨od, J, _⟩ := J.look
  obtain ⟨m, hF⟩ := I.fr
  have hty : ∃ tb, PySem.W.notFirst X.K C0 tb = true ∧ PySem.W.Looks (model X.prog X.w) s.heap (typeOf u) tb := by
    rcases hz with ⟨t, et, ht⟩ | ei
    · obtain ⟨P', Z, p, _⟩ := kit_of I ry (tyN_of W r2 et)
      exact ⟨_, T t ht, Z.ty _ _ I.kIn p⟩
    · obtain ⟨b, dy, gs, rfl, eb⟩ := insOf_of W r2 ei
      cases (show u = Value.ref b from ry)
      obtain ⟨mB, J', _⟩ := ins_get I.hok eb
      obtain ⟨od', J', _⟩ := J'.look
      exact ⟨_, by simp [PySem.W.notFirst], J'.type⟩
  obtain ⟨tb, hn, hl⟩ := hty
  show wpAny (model X.prog X.w) X.A (richCompare .Eq (.ref a) u) (EP X pins σ Qv) X.xe s
  refine PySem.W.cmp_K (op := .Eq) hr.units0 hF I.ok.mod.kin J hl hn hm.at_ hm.fn ?_
  have hsp : spOf X.K 2 G [.ref a, y] H (fun v H' => ∃ b, v = .bl b ∧ Qv v H') (fun _ _ _ => False) := by
    refine ⟨rfl, P, S, [w, z], _, _, W, .cons r1 (.cons r2 .nil), g, fun v' H' w' S' W' r' e' q => ?_, fun _ _ _ _ _ _ _ _ h => h⟩
    dsimp only at q
    split at q
    · rename_i b
      rw [rp_bl] at r'
      exact ⟨b, r', by rw [r']; exact nq (.bl b) H' (.bl b) S' W' rpBl e' q⟩
    · exact q.elim
  refine wpAny_mono (run_fnSD (us := [.ref a, u]) (vs := [.ref a, y]) (E := fun _ _ _ _ => False) F hr hb .nil (fun _ _ _ _ _ _ h => (cx_none h).elim) I (.cons rx (.cons ry .nil)) hsp) (fun r s' hq => ?_) fun _ _ h => h
  obtain ⟨v', H', I', rv', b, rfl, hq⟩ := hq
  cases (show r = Value.bool b from rv')
  exact ⟨.bl b, H', I', rfl, hq⟩
end
end Dn

/-! Dn: an exception out of a comprehension's element; statements that are never come to. -/
namespace Dn
open PySem PySem.Spec PyProof.Rows L2
/-! ### never come to -/
def mDead : MS := fun _ _ _ => False
def mDeadE : ME := fun _ _ _ _ => False
theorem js_dead {X : Cx} {E : WX} {st : Stmt} : JS X E st mDead := ⟨fun _ _ _ _ _ _ ⟨_, _, _, _, _, _, h, _⟩ => h.elim⟩
theorem je_dead {X : Cx} {E : WX} {e : Expr} : JE X E e mDeadE := ⟨fun _ _ _ _ _ _ ⟨_, _, _, _, _, _, _, h, _⟩ => h.elim⟩
/-! ### out of a block -/
abbrev blkX (X : Cx) (s : Shared) (H : Hp) (scope : Scope) (ce : PySem.Env) (fp : List Addr) (xb : Value → Shared → Prop) : Cx := (X.blk s H scope ce fp).tr [] xb
theorem raw_ne {a b : Addr} (h : a ≠ b) : (rawInt a == rawInt b) = false := by
  unfold rawInt
  simp
  exact fun z => h (Int.ofNat_inj.mp z)
theorem frames_less {B B' h : Heap} (k : ∀ b, B.get? b = none → B'.get? b = none) : ∀ {l : List PySem.Env}, h.FunFrames B l → h.FunFrames B' l
  | [], _ => trivial
  | _ :: _, ⟨a, ⟨L, o, e1, e2, e3, e4⟩, r⟩ => ⟨a, ⟨L, o, e1, k _ e2, e3, e4⟩, frames_less k r⟩
/-- held by another frame's hand: noted, as one that flies -/
theorem look_other {M : Model} {A : Around} {E : Value → Shared → Prop} {s : Shared} {env : PySem.Env} {outer : List PySem.Env} {base : Heap} {e L C : Addr} {Z : Obj → Prop} {Q : Unit → Shared → Prop} (hZ : HandSPX.Steady Z) (hfr : A.frames = some (env :: outer)) (hf : env.frame = some L) (hne : C ≠ L) (hh : HandSPX.HeldZ base (env :: outer) e Z C s.heap)
    (hQ : ∀ h', HandSPX.HeldZ base (env :: outer) e Z L h' → s.heap.UpToSlots h' → Q () { s with heap := h' }) : wpAny M A (noteFrame (.ref e) env) Q E s := by
  obtain ⟨b1, b2, b3, oe, vs, T, oT, ts, he, hz, hd, h1, hnT, hTe, hT, hdT, h3⟩ := hh
  have o1 : ∀ b, b ≠ T → (s.heap.update T (Obj.mapFields (·.setIfInBounds 3 Value.none))).get? b = s.heap.get? b := fun b z => Heap.get?_update_other _ _ (Ne.symm z)
  have o2 : ∀ b o, s.heap.get? b = some o → (∀ us, o.data ≠ .fields us) → b ≠ T := fun b o q1 q2 z => by
    rw [z, hT] at q1
    cases q1
    exact q2 ts hdT
  unfold noteFrame
  simp only [hf]
  refine wpAny_bind (wpAny_field he hd h1 ?_)
  rw [if_pos (by simp : (Value.ref T != Value.none) = true)]
  refine wpAny_bind (wpAny_field hT hdT h3 ?_)
  rw [if_neg (by rw [raw_ne hne]; decide)]
  refine wpAny_bind (wpAny_setField hT hdT (Array.getElem?_eq_some_iff.mp h3).1 ?_)
  refine HandSPX.wpAny_entryZ (s := { s with heap := s.heap.update T (Obj.mapFields (·.setIfInBounds 3 Value.none)) }) hZ hfr (b3.of_keeps fun b o q1 q2 => ⟨o, (o1 b (o2 b o q1 q2)).trans q1, rfl⟩) hf ((o1 e (Ne.symm hTe)).trans he)
    (fun b o q => (o1 b fun z => by rw [z, hnT] at q; cases q).trans (b1 b o q)) b2 hd (Array.getElem?_eq_some_iff.mp h1).1 hz fun h' hN => ?_
  obtain ⟨x1, x2, x3, x4⟩ := hN
  refine hQ h' ⟨x1, b2, x2, x3⟩ fun b o q1 q2 => ?_
  exact x4 b o ((o1 b (o2 b o q1 q2)).trans q1) q2
section
variable {X : Cx} {W : WX} {pins : List (Addr × Obj)} {σ : L2.St} {H : Hp} {s : Shared}
theorem takes_blk {scope : Scope} {ce : PySem.Env} {fp : List Addr} {xb : Value → Shared → Prop} {F : Value → Shared → Prop} (hst : X.stack = X.env :: X.outer) (hfm : X.env.frame = some X.env.locals) (tk : Takes X W) (I3 : L2.Inv X pins σ H s) (f3 : ∀ b ∈ fp, FpOk X pins H b ∧ b < s.heap.objs.size)
    (cL : ce.locals = s.heap.objs.size) (cF : ce.frame = X.env.frame) (hF : ∀ u s', CompFails (model X.prog X.w) X.A X.xe ce u s' → F u s') (hxb : xb = notedBy (model X.prog X.w) X.A ce F) :
    Takes (blkX X s H scope ce fp xb) (fun c d _ H' => W c d σ H') := by
  rintro u s' ⟨a, B, sI, pins', σ', H', cls, d, rfl, I, nb, up, sky, na, os, ag, w⟩
  have hA : X.A.frames = some (X.env :: X.outer) := by rw [I3.ok.frames, hst]
  rw [show (blkX X s H scope ce fp xb).xe = xb from rfl, hxb]
  show wpAny _ X.A (noteFrame (.ref a) ce) _ _ s'
  rw [noteFrame_env _ cF]
  have sky : Sky B (X.env :: X.outer) a (Zc cls d) ce.locals s'.heap := hst ▸ sky
  have nb : ∀ b o, sI.heap.get? b = some o → b ∉ frs X.stack → B.get? b = some o := nb
  obtain ⟨m, hn, _⟩ := I.loc
  have hn : sI.heap.Ns ce.locals m := hn
  have hneL : ce.locals ≠ X.env.locals := by
    obtain ⟨m2, hn2, _⟩ := I3.loc
    rw [cL]
    exact fun z => absurd hn2.lt (by rw [← z]; exact Nat.lt_irrefl _)
  have fin : ∀ h1, HandSPX.HeldZ B (X.env :: X.outer) a (Zc cls d) X.env.locals h1 → s'.heap.UpToSlots h1 → F (.ref a) { s' with heap := h1 } := by
    intro h1 hh up1
    have upA := up.trans up1
    have hn1 : h1.Ns ce.locals m := Heap.Ns.upToSlots hn upA
    refine hF _ _ ⟨m, hn1, fun h2 m2 hn2 sb => ?_⟩
    obtain ⟨k1, k2, k3, oe, vs, T, oT, ts, he, hz, hd, hv1, hnT, hTe, hT, hdT, hv3⟩ := hh
    have nrec : ∀ {b : Addr} {o : Obj} {us : Array Value}, h1.get? b = some o → o.data = .fields us → b ≠ ce.locals := fun {b o us} q1 q2 z => by
      obtain ⟨oc, es, ep, c1, c2, _⟩ := hn1
      rw [z, c1] at q1
      cases q1
      rw [c2] at q2
      cases q2
    have less : ∀ b o, (PySem.W.hideAll B [ce.locals]).get? b = some o → B.get? b = some o ∧ b ≠ ce.locals := fun b o q => ⟨PySem.W.of_hideAll _ q, fun z => by
      rw [PySem.W.hideAll_none [ce.locals] (show b ∈ [ce.locals] by rw [z]; exact List.mem_singleton.mpr rfl)] at q
      cases q⟩
    have lessN : ∀ b, B.get? b = none → (PySem.W.hideAll B [ce.locals]).get? b = none := fun b q => by
      cases q2 : (PySem.W.hideAll B [ce.locals]).get? b with
      | none => rfl
      | some o =>
        rw [(less b o q2).1] at q
        cases q
    have lessG : ∀ b o, B.get? b = some o → b ≠ ce.locals → (PySem.W.hideAll B [ce.locals]).get? b = some o := fun b o q z => PySem.W.hideAll_get _ q (by rw [List.mem_singleton]; exact z)
    generalize PySem.W.hideAll B [ce.locals] = B' at less lessN lessG
    have g1 : B'.StaysIn h2 := fun b o q => (sb.2 b (less b o q).2).trans (k1 b o (less b o q).1)
    have g3 : h2.FunFrames B' (X.env :: X.outer) := Heap.FunFrames.sameBut sb hn2 (frames_less lessN k3)
    have e2 : h2.get? a = some oe := (sb.2 a (nrec he hd)).trans he
    have T2 : h2.get? T = some oT := (sb.2 T (nrec hT hdT)).trans hT
    unfold PySem.passOn
    refine wpAny_bind (wpAny_field e2 hd hv1 ?_)
    rw [if_neg (by simp : ¬ ((Value.ref T == Value.none) = true)), cF, hfm]
    refine wpAny_bind (HandSPX.setFlight_anyZ g1 g3 ⟨oe, vs, T, oT, ts, e2, hz, hd, hv1, lessN _ hnT, hTe, T2, hdT, hv3⟩ fun h3 j1 j2 j3 j4 => ?_)
    refine wpAny_throw (tk _ _ ?_)
    have I7 : L2.Inv X pins σ H' sI := I3.call' (ch := fp) I.os I.base I.hok I.bare fun b hb => ⟨(f3 b hb).1.2.2.2.1, (f3 b hb).1.2.1, (f3 b hb).1.2.2.2.2.1, (f3 b hb).1.2.2.2.2.2⟩
    have nC : H' ce.locals = none := I.free
    rw [cL] at nC
    obtain ⟨q0, q1, q2, q3, q4, q5⟩ := I3.fpOk (Nat.le_refl _) nC
    have gg : ∀ b o, (PySem.W.hideAll sI.heap [ce.locals]).get? b = some o → sI.heap.get? b = some o ∧ b ≠ ce.locals := fun b o q => ⟨PySem.W.of_hideAll _ q, fun z => by
      rw [PySem.W.hideAll_none [ce.locals] (show b ∈ [ce.locals] by rw [z]; exact List.mem_singleton.mpr rfl)] at q
      cases q⟩
    have ge : ∀ b o, b ≠ ce.locals → sI.heap.get? b = some o → (PySem.W.hideAll sI.heap [ce.locals]).get? b = some o := fun b o z q => PySem.W.hideAll_get _ q (by rw [List.mem_singleton]; exact z)
    refine ⟨a, B', { sI with heap := PySem.W.hideAll sI.heap [ce.locals] }, pins, σ, H', cls, d, rfl, I7.turned (t' := sI.toks) (fun b o z q => ge b o (by rw [cL]; exact z) q) q0 q1 q3 q4 q5, fun b o q z => ?_, ?_, .inr (.inr (hst ▸ ⟨j1, lessN _ k2, j2, j3⟩)), na, os, ag, w⟩
    · exact lessG b o (nb b o (gg b o q).1 z) (gg b o q).2
    · intro b o q hnf
      obtain ⟨sl, e⟩ := upA b o (gg b o q).1 hnf
      obtain ⟨sl2, e3⟩ := j4 b { o with slots := sl } ((sb.2 b (gg b o q).2).trans e) hnf
      exact ⟨sl2, e3⟩
  rcases sky with ⟨s1, s2, s3, oe, vs, he, hz, hd, hv⟩ | fl | hh
  · exact HandSPX.look_newZ Zc.steady hA s3 hfm he s1 s2 hd hv hz fin
  · exact HandSPX.looks_onZ Zc.steady hA hfm fl fin
  · exact look_other Zc.steady hA hfm hneL hh fin
end
/-- [elt for target in iter if ..], the element may raise -/
def tLcX (wi : TI) (g : TG) (tt : TT) (te : XK → TE) (vs : List Nat) (W : WX) : TE := fun σ H Q => wi σ H fun J H1 => ∀ D, H1 D = none → ∃ V : Nat → Nat → Hp → Prop, (∃ m, V 0 m (upd H1 D (.lst []))) ∧ ∀ i m H2, V i m H2 →
  (J.stop i H2 ∧ Q (.ref D) H2) ∨ (J.go i H2 ∧ ∃ Nx : Hp → Prop, (∀ H3, Nx H3 → ∃ k, k < m ∧ V (i + 1) k H3) ∧ ∀ x H3, J.yld i H2 x H3 → g x (wipe σ vs) H3 fun τ H4 => wipe τ vs = wipe σ vs ∧ tt τ H4 fun b H5 =>
    if b = true then te (fun c d H6 => W c d σ H6) τ H5 fun y H6 => ∃ acc, H6 D = some (.lst acc) ∧ acc.length < sizeLine ∧ Nx (upd H6 D (.lst (acc ++ [y]))) else Nx H5)
section
variable {X : Cx} {W : WX}
theorem lcX_core {pins : List (Addr × Obj)} {s : Shared} {σ : L2.St} {H : Hp} {Q : VK} {elt tg iter : Expr} {ifs : List Expr} {scope : Scope} {own : List (Str × Nat)} {pos p2 : Pos} {wi : TI} {g : TG} {tt : TT} {te : XK → TE} {Qf : Value → Shared → Prop}
    (hst : X.stack = X.env :: X.outer) (hfm : X.env.frame = some X.env.locals) (tk : Takes X W) (hc : X.calm = true) (hN : X.N.Nodup) (I : L2.Inv X pins σ H s) (hi : PI X tg iter wi) (ok : BlkOk X.N X.env.scope scope own)
    (hg : ∀ (s : Shared) (H : Hp) (C : Addr) (cl : List (Str × Addr)) (fp : List Addr) (xb : Value → Shared → Prop), PG (blkX X s H scope (compEnvC scope cl C X.env) fp xb) tg g)
    (ht : ∀ (s : Shared) (H : Hp) (C : Addr) (cl : List (Str × Addr)) (fp : List Addr) (xb : Value → Shared → Prop), PTs (blkX X s H scope (compEnvC scope cl C X.env) fp xb) ifs tt)
    (he : ∀ (s : Shared) (H : Hp) (C : Addr) (cl : List (Str × Addr)) (fp : List Addr) (xb : Value → Shared → Prop) (Eo : XK), Takes (blkX X s H scope (compEnvC scope cl C X.env) fp xb) (fun c d _ H' => Eo c d H') → PE (blkX X s H scope (compEnvC scope cl C X.env) fp xb) elt (te Eo))
    (hs : ∀ x, foldedSetIterable iter X.env x = pure x)
    (h : tLcX wi g tt te (own.map (·.2)) W σ H Q)
    (fin : ∀ D C s' m H', L2.Inv X pins σ H' s' → Q (.ref D) H' → s'.heap.Ns C m → FpOk X pins H' C → ∀ h', Heap.SameBut C s'.heap h' → Qf (.ref D) { s' with heap := h' }) :
    wpAny (model X.prog X.w) X.A (comprehension (.ListComp elt [⟨tg, iter, ifs, 0⟩] scope pos) scope X.env p2 (newList []) false (eval iter X.env) none) Qf X.xe s := by
  have free : ∀ y ∈ scope.names, y.2 = .free → ∃ c, X.env.cells.lookup y.1 = some c := fun y hy e => (ok.free y hy e).elim (fun k => I.ok.has _ (.inl k)) (fun k => I.ok.has _ (.inr k))
  refine comprehension_at (use := none) rfl hs (closure_ok free) ok.kind (fun y hy e => by rw [ok.uniq y hy, e]) (thn (hi.run pins s σ H _ I h) fun xv s1 hx => thn hx fun itv s2 h2 => ?_)
  obtain ⟨it, fp, tn, J, H2, rfl, I2, T, st2, f2, q⟩ := h2
  refine wpAny_newObj_type (newEnv_comp ?_) (by show 0 ≤ sizeLine; decide)
  generalize hD : s2.heap.objs.size = D
  obtain ⟨V, ⟨m0, w0⟩, turn⟩ := q D (I2.hok.fresh (Nat.le_of_eq hD))
  generalize hs3 : ({ s2 with heap := s2.heap.push { cls := .type "list", data := .seq ([] : List Value).toArray } } : Shared) = s3
  have h3 : s3.heap = s2.heap.push { cls := .type "list", data := .seq ([] : List Value).toArray } := by rw [← hs3]
  have I3 : L2.Inv X pins σ (upd H2 D (.lst [])) s3 := by
    rw [← hs3]
    exact I2.laid (t' := s2.toks) (fun b o e => Heap.get?_push_of_some _ e) (Nat.le_of_eq hD) ⟨Nat.zero_le _, [], 0, .nil, by rw [← hD]; exact Heap.get?_push_size _ rfl⟩
  have below : ∀ b ∈ fp, b < s2.heap.objs.size := fun b hb => by
    obtain ⟨o, e, _⟩ := T.obj _ _ st2 b hb
    exact Heap.lt_size e
  have f3 : ∀ b ∈ fp, FpOk X pins (upd H2 D (.lst [])) b ∧ b < s3.heap.objs.size := fun b hb => by
    have lt := below b hb
    exact ⟨⟨by rw [upd_ne (by rw [← hD]; exact Nat.ne_of_lt lt)]; exact (f2 b hb).1, (f2 b hb).2⟩, by rw [h3, Heap.size_push]; exact Nat.lt_succ_of_lt lt⟩
  have st3 : tn 0 s3.heap := T.keep _ _ _ st2 fun b _ o e => by rw [h3]; exact Heap.get?_push_of_some _ e
  have I4 := block_start I3 ok hN f3
  have nfp : ∀ b ∈ fp, (upd H2 D (.lst [])) b = none := fun b hb => (f3 b hb).1.1
  have pg := hg s3 (upd H2 D (.lst [])) s3.heap.objs.size (cellsFrom (s3.heap.objs.size + 1) scope.names (cloFrom X.env.cells scope.names [])) fp
  have pt := ht s3 (upd H2 D (.lst [])) s3.heap.objs.size (cellsFrom (s3.heap.objs.size + 1) scope.names (cloFrom X.env.cells scope.names [])) fp
  have pe := he s3 (upd H2 D (.lst [])) s3.heap.objs.size (cellsFrom (s3.heap.objs.size + 1) scope.names (cloFrom X.env.cells scope.names [])) fp
  show codeAny _ _ (.compStart (.ListComp elt [⟨tg, iter, ifs, 0⟩] scope pos) 0 (.ref it) (.ref D) (compEnvC scope (cellsFrom (s3.heap.objs.size + 1) scope.names (cloFrom X.env.cells scope.names [])) s3.heap.objs.size X.env)) (compEnds (model X.prog X.w) X.A X.xe none Qf (.ref D) (compEnvC scope (cellsFrom (s3.heap.objs.size + 1) scope.names (cloFrom X.env.cells scope.names [])) s3.heap.objs.size X.env)) { s3 with heap := pushCells (s3.heap.push { cls := .type "dict", data := .dict #[] }) scope.names }
  have ceF : (compEnvC scope (cellsFrom (s3.heap.objs.size + 1) scope.names (cloFrom X.env.cells scope.names [])) s3.heap.objs.size X.env).frame = X.env.frame := rfl
  generalize hce : compEnvC scope (cellsFrom (s3.heap.objs.size + 1) scope.names (cloFrom X.env.cells scope.names [])) s3.heap.objs.size X.env = ce at I4 pg pt pe ceF ⊢
  have cL : ce.locals = s3.heap.objs.size := by subst hce; rfl
  generalize hH3 : upd H2 D (.lst []) = H3 at I3 I4 pg pt pe w0 nfp f3
  generalize hs4 : ({ s3 with heap := pushCells (s3.heap.push { cls := .type "dict", data := .dict #[] }) scope.names } : Shared) = s4 at I4 ⊢
  have st4 : tn 0 s4.heap := T.keep _ _ _ st3 fun b _ o e => by rw [← hs4]; exact pushCells_keeps _ _ _ _ (Heap.get?_push_of_some _ e)
  generalize hxb : notedBy (model X.prog X.w) X.A ce (fun e s' => compEnds (model X.prog X.w) X.A X.xe none Qf (.ref D) ce (.error e) s') = xb
  have tkb := takes_blk (scope := scope) hst hfm tk I3 f3 cL ceF (fun u s' k => k) hxb.symm
  have pg := pg xb
  have pt := pt xb
  have pe := pe xb _ tkb
  have stat : ∀ {σ' : L2.St} {H' : Hp} {s' : Shared}, L2.Inv (blkX X s3 H3 scope ce fp xb) [] σ' H' s' → (∀ b ∈ fp, H' b = none) → ∀ b ∈ fp, FpOk (blkX X s3 H3 scope ce fp xb) [] H' b := fun {σ' H' s'} I' hn b hb =>
    ⟨hn b hb, (I'.ok.exf b hb).1, I'.ok.exfs b hb, .inl hb, fun x c e => (I'.ok.exf b hb).2 x c e, fun p hp => by simp at hp⟩
  have loop : codeAny (model X.prog X.w) X.A (.compLoop (.ListComp elt [⟨tg, iter, ifs, 0⟩] scope pos) 0 (.ref it) (.ref D) ce) (compEnds (model X.prog X.w) X.A X.xe none Qf (.ref D) ce) s4 := by
    have I4t : L2.Inv (blkX X s3 H3 scope ce fp xb) [] (wipe σ (own.map (·.2))) H3 s4 := I4.toTry xb
    refine compLoop_any (fun n s' => ∃ i H', L2.Inv (blkX X s3 H3 scope ce fp xb) [] (wipe σ (own.map (·.2))) H' s' ∧ tn i s'.heap ∧ (∀ b ∈ fp, H' b = none) ∧ V i n H') ?_ m0 ⟨0, H3, I4t, st4, nfp, w0⟩
    rintro n s5 ⟨i, H5, I5, st5, n5, w5⟩
    rw [hxb]
    rcases turn i n H5 w5 with ⟨stop, qq⟩ | ⟨go, Nx, hNx, step⟩
    · refine thn (T.done (blkX X s3 H3 scope ce fp xb) rfl rfl rfl hc i [] s5 _ H5 xb I5 (stat I5 n5) st5 stop) fun r s6 ⟨hr, I6⟩ => ?_
      subst hr
      have I7 : L2.Inv X pins σ H5 s6 := I3.call' (ch := fp) I6.os I6.base I6.hok I6.bare fun b hb => ⟨(f3 b hb).1.2.2.2.1, (f3 b hb).1.2.1, (f3 b hb).1.2.2.2.2.1, (f3 b hb).1.2.2.2.2.2⟩
      have nC : H5 ce.locals = none := I6.free
      obtain ⟨m, hn, _⟩ := I6.loc
      have hn : s6.heap.Ns ce.locals m := hn
      exact ⟨m, hn, fun h' sb => fin D ce.locals s6 m H5 I7 qq hn (by rw [cL] at nC ⊢; exact I3.fpOk (Nat.le_refl _) nC) h' sb⟩
    · refine thn (T.item (blkX X s3 H3 scope ce fp xb) rfl rfl rfl hc i [] s5 _ H5 xb I5 (stat I5 n5) st5 go) fun r s6 ⟨u, hr, h6⟩ => ?_
      subst hr
      refine thn h6 fun _ s7 ⟨x, H7, I7, r7, y7, st7, n7⟩ => ?_
      have I7' := I7.pinned (stat I7 n7) (T.obj _ _ st7)
      refine thn (pg.run _ s7 _ H7 x u _ I7' r7 (step x H7 y7)) fun _ s8 ⟨σ8, H8, I8, hw8, q8⟩ => ?_
      refine thn (pt.run _ s8 σ8 H8 _ I8 q8) fun b s9 ⟨H9, I9, q9⟩ => ?_
      have next : ∀ {s' : Shared} {H' : Hp}, L2.Inv (blkX X s3 H3 scope ce fp xb) ([] ++ pinsAt fp s7.heap) σ8 H' s' → Nx H' → ∃ m, m < n ∧ ∃ i H', L2.Inv (blkX X s3 H3 scope ce fp xb) [] (wipe σ (own.map (·.2))) H' s' ∧ tn i s'.heap ∧ (∀ b ∈ fp, H' b = none) ∧ V i m H' := fun {s' H'} I' nx => by
        obtain ⟨k, hk, w'⟩ := hNx H' nx
        have pn : ∀ b ∈ fp, ∀ o, s7.heap.get? b = some o → s'.heap.get? b = some o ∧ H' b = none := fun b hb o e =>
          have z := I'.pin (b, o) (List.mem_append_right _ (List.mem_append_right _ (mem_pinsAt hb e)))
          ⟨z.1, z.2.1⟩
        refine ⟨k, hk, i + 1, H', (I'.unpinned (pins := [])).weak (by rw [← hw8, wipe_length]) (fun j v e => (wipe_some (hw8 ▸ e)).1), T.keep _ _ _ st7 fun b hb o e => (pn b hb o e).1, fun b hb => ?_, w'⟩
        obtain ⟨o, e, _⟩ := T.obj _ _ st7 b hb
        exact (pn b hb o e).2
      cases b with
      | false =>
        simp only [Bool.false_eq_true, if_false] at q9 ⊢
        exact next I9 q9
      | true =>
        simp only [if_true] at q9 ⊢
        exact thn (pe.run _ s9 σ8 H9 _ I9 q9) fun z s10 ⟨yv, H10, I10, r10, acc, hD10, hz10, nx⟩ => app_ok (X := blkX X s3 H3 scope ce fp xb) I10 hD10 hz10 r10 fun s11 I11 => next I11 nx
  exact codeAny_compStart_list loop (T.self X.A 0 _ _ _ st4 loop)
theorem pe_lcX {elt tg iter : Expr} {ifs : List Expr} {scope : Scope} {own : List (Str × Nat)} {pos : Pos} {wi : TI} {g : TG} {tt : TT} {te : XK → TE} (hst : X.stack = X.env :: X.outer) (hfm : X.env.frame = some X.env.locals) (tk : Takes X W) (hc : X.calm = true) (hN : X.N.Nodup) (hi : PI X tg iter wi) (ok : BlkOk X.N X.env.scope scope own)
    (hg : ∀ (s : Shared) (H : Hp) (C : Addr) (cl : List (Str × Addr)) (fp : List Addr) (xb : Value → Shared → Prop), PG (blkX X s H scope (compEnvC scope cl C X.env) fp xb) tg g)
    (ht : ∀ (s : Shared) (H : Hp) (C : Addr) (cl : List (Str × Addr)) (fp : List Addr) (xb : Value → Shared → Prop), PTs (blkX X s H scope (compEnvC scope cl C X.env) fp xb) ifs tt)
    (he : ∀ (s : Shared) (H : Hp) (C : Addr) (cl : List (Str × Addr)) (fp : List Addr) (xb : Value → Shared → Prop) (Eo : XK), Takes (blkX X s H scope (compEnvC scope cl C X.env) fp xb) (fun c d _ H' => Eo c d H') → PE (blkX X s H scope (compEnvC scope cl C X.env) fp xb) elt (te Eo))
    (hs : ∀ x, foldedSetIterable iter X.env x = pure x := by intro _; rfl) :
    PE X (.ListComp elt [⟨tg, iter, ifs, 0⟩] scope pos) (tLcX wi g tt te (own.map (·.2)) W) := by
  refine ⟨fun pins s σ H Q I h => ?_⟩
  rw [eval_ListComp]
  refine lcX_core hst hfm tk hc hN I hi ok hg ht he hs h fun D C s' m H' I' q hn f h'' sb => ?_
  obtain ⟨f0, f1, f2, f3, f4, f5⟩ := f
  exact ⟨.ref D, H', I'.turned (t' := s'.toks) (fun b o hb e => (sb.2 b hb).trans e) f0 f1 f3 f4 f5, rfl, q⟩
end
/-! ### as predicate transformers -/
def compWX (b : BW) (mt : MT) (me : ME) (σ : Env) (vs : List Nat) (gd : Store → Prop) (Q : List Dt → Store → Prop) (Ex : Exn → Store → Prop) : List Dt → List Dt → Store → Prop
  | [], acc, S => gd S ∧ Q acc S
  | w :: ws, acc, S => gd S ∧ match b w (wipeW σ vs) with
    | some σ1 => mt σ1 S (fun c S2 => br c (me σ1 S2 (fun y S3 => acc.length < sizeLine ∧ compWX b mt me σ vs gd Q Ex ws (acc ++ [y]) S3) Ex) (compWX b mt me σ vs gd Q Ex ws acc S2)) (fun _ _ => False)
    | none => False
def mCompX (mi : MI) (b : BW) (mt : MT) (me : ME) (vs : List Nat) : ML := fun σ S Q Ex => mi σ S (fun ws gd S1 => compWX b mt me σ vs gd Q Ex ws [] S1) Ex
theorem Wd.less {K : Frg} {P P' : Hid} {S : Store} {H : Hp} (W : Wd K P' S H) (k : ∀ a, P a → P' a) : Wd K P S H :=
  ⟨fun a o e => (W.sim a o e).conv (fun a o h n q => ⟨h, n, fun p => q (k a p)⟩) (fun u hu => hu), fun a q => W.hid a (k a q)⟩
theorem comp_weakX {K : Frg} {E : WX} {mi : MI} {g : TG} {b : BW} {mt : MT} {me : ME} {vs : List Nat} (hb : Binds1 K g vs b) {σv : L2.St} {H : Hp} {Qv : VK} (h : rdL K E (mCompX mi b mt me vs) σv H Qv) :
    tLcX (rdI K E mi) g (rdT K (fun _ _ _ _ => False) mt) (fun Eo => rdE K (fun c d _ H' => Eo c d H') me) vs E σv H Qv := by
  obtain ⟨P, S, σ, Q, Ex, W, r, m, nl, nx⟩ := h
  refine ⟨P, S, σ, _, Ex, W, r, m, fun J H1 ws gd S1 W1 e1 dl m1 => ?_, nx⟩
  intro Dl hD
  have fr := W1.free hD
  have hp : ∀ b, (P b ∨ b = Dl) → P b ∨ H1 b = none := fun b h => h.imp id fun z => by rw [z]; exact hD
  have nD : ∀ {a o}, H1 a = some o → a ≠ Dl := fun h z => by rw [z, hD] at h; cases h
  refine ⟨fun i k H2 => ∃ S2 us acc xs, Wd K (fun b => P b ∨ b = Dl) S2 H2 ∧ Evo S1 H1 S2 H2 ∧ H2 Dl = some (.lst xs) ∧ RpL K (fun b => P b ∨ b = Dl) S2 H2 acc xs ∧ us = ws.drop i ∧ k = us.length ∧ i ≤ ws.length ∧ compWX b mt me σ vs gd Q Ex us acc S2, ⟨ws.length, S1, ws, [], [], ?_, Evo.new hD, upd_same, RpL.nil, rfl, rfl, Nat.zero_le _, m1⟩, ?_⟩
  · refine ⟨fun a o e => ?_, fun a q => ?_⟩
    · refine (W1.sim a o e).conv (fun a' o' h' n' p' => ⟨by rw [upd_ne (nD h')]; exact h', n', fun q => q.elim p' fun z => nD h' z⟩) (fun u hu => by rw [upd_ne (nD hu)]; exact hu)
    · rcases q with q | q
      · obtain ⟨h1, u, h2⟩ := W1.hid a q
        exact ⟨h1, u, by rw [upd_ne (nD h2)]; exact h2⟩
      · rw [q]; exact ⟨fr.1, _, upd_same⟩
  · rintro i k H2 ⟨S2, us, acc, xs, W2, e2, hx, rl, eu, ek, hi, f⟩
    have sD : S2 Dl = none := (W2.hid Dl (.inr rfl)).1
    cases us with
    | nil =>
      unfold compWX at f
      have hl : ws.length ≤ i := by
        have := congrArg List.length eu
        simp at this
        omega
      refine .inl ⟨(dl _ S2 H2 i hp W2 e2 f.1).2 hl, ?_⟩
      have dn : ∀ {a : Addr}, a ≠ Dl → hdel H2 Dl a = H2 a := fun {a} z => by unfold hdel; rw [if_neg z]
      have c : ∀ a o, H2 a = some o → S2 a = none → ¬ (P a ∨ a = Dl) → hdel H2 Dl a = some o ∧ S2 a = none ∧ ¬ P a := fun a o h n q => ⟨by rw [dn fun z => q (.inr z)]; exact h, n, fun z => q (.inl z)⟩
      refine nl Dl (hdel H2 Dl) H2 xs acc S2 ⟨fun a o e => ?_, fun a q => ?_⟩ (by unfold hdel; rw [if_pos rfl]) ?_ (rl.conv c) (e1.trans fun a o n h => ?_) f.2
      · exact (W2.sim a o e).conv c fun u hu => by rw [dn fun z => by rw [z, sD] at e; cases e]; exact hu
      · obtain ⟨h1, u, h2⟩ := W2.hid a (.inl q)
        exact ⟨h1, u, by rw [dn fun z => fr.2 (z ▸ q)]; exact h2⟩
      · funext a
        by_cases z : a = Dl
        · rw [z, upd_same]; exact hx
        · rw [upd_ne z, dn z]
      · obtain ⟨h1, h2⟩ := e2 a o n h
        exact ⟨by rw [dn (nD h)]; exact h1, h2⟩
    | cons w us =>
      unfold compWX at f
      have ew : ws[i]? = some w := by
        have := congrArg List.head? eu
        rw [List.head?_cons, List.head?_drop] at this
        exact this.symm
      have hil : i < ws.length := (List.getElem?_eq_some_iff.mp ew).1
      have eu2 : us = ws.drop (i + 1) := by
        have := congrArg List.tail eu
        rw [List.tail_cons, List.tail_drop] at this
        exact this
      obtain ⟨hgo, hy⟩ := (dl _ S2 H2 i hp W2 e2 f.1).1 w ew
      refine .inr ⟨hgo, fun H' => ∃ S3 acc' xs', Wd K (fun b => P b ∨ b = Dl) S3 H' ∧ Evo S1 H1 S3 H' ∧ H' Dl = some (.lst xs') ∧ RpL K (fun b => P b ∨ b = Dl) S3 H' acc' xs' ∧ compWX b mt me σ vs gd Q Ex us acc' S3, fun H' hN => ?_, fun x H' hx' => ?_⟩
      · obtain ⟨S3, acc', xs', W3, e3, h3, rl3, f3⟩ := hN
        exact ⟨us.length, by rw [ek, List.length_cons]; omega, S3, us, acc', xs', W3, e3, h3, rl3, eu2, rfl, hil, f3⟩
      · obtain ⟨W3, e3, r3⟩ := hy x H' hx'
        have f2 := f.2
        split at f2
        · rename_i σ1 eb
          have rs : RpS K (fun b => P b ∨ b = Dl) S2 H' σ σv := ⟨r.1, fun j z q => by
            obtain ⟨v, a, b⟩ := (r.mono e1).2 j z q
            exact ⟨v, a, rp_live hp (e2.trans e3) b⟩⟩
          refine hb _ S2 H' w x σ σ1 σv _ W3 rs r3 eb fun σv' rs' ewp => ⟨ewp, _, S2, σ1, _, _, W3, rs', f2, fun cc H4 S4 W4 e4 q4 => ?_, fun _ _ _ _ _ _ _ _ q => q.elim⟩
          have h4 : H4 Dl = some (.lst xs) ∧ S4 Dl = none := (e3.trans e4) Dl _ sD hx
          cases cc with
          | true =>
            refine ⟨_, S4, σ1, _, Ex, W4, rs'.mono e4, q4, fun y H5 wy S5 W5 r5 e5 q5 => ?_, fun c0 d0 H5 x0 S5 W5 r5 e5 q5 => ?_⟩
            · have h5 := e5 Dl _ h4.2 h4.1
              have c : ∀ a o, H5 a = some o → S5 a = none → ¬ (P a ∨ a = Dl) → upd H5 Dl (.lst (xs ++ [y])) a = some o ∧ S5 a = none ∧ ¬ (P a ∨ a = Dl) := fun a o h n q => ⟨by rw [upd_ne fun z => q (.inr z)]; exact h, n, q⟩
              refine ⟨xs, h5.1, by rw [← rl.length]; exact q5.1, S5, acc ++ [wy], xs ++ [y], ⟨fun a o e => ?_, fun a q => ?_⟩, fun a o n h => ?_, upd_same, ?_, q5.2⟩
              · exact (W5.sim a o e).conv c fun u hu => by rw [upd_ne fun z => by rw [z, h5.2] at e; cases e]; exact hu
              · by_cases z : a = Dl
                · rw [z]; exact ⟨h5.2, _, upd_same⟩
                · obtain ⟨h1, u, h2⟩ := W5.hid a q
                  exact ⟨h1, u, by rw [upd_ne z]; exact h2⟩
              · obtain ⟨h1, h2⟩ := (((e2.trans e3).trans e4).trans e5) a o n h
                exact ⟨by rw [upd_ne (nD h)]; exact h1, h2⟩
              · exact ((rl.mono ((e3.trans e4).trans e5)).append (RpL.cons r5 RpL.nil)).conv c
            · exact nx c0 d0 H5 x0 S5 (W5.less fun a p => .inl p) (r5.conv fun a o h n q => ⟨h, n, fun p => q (.inl p)⟩) ((((e1.trans e2).trans e3).trans e4).trans e5) q5
          | false => exact ⟨S4, acc, xs, W4, (e2.trans e3).trans e4, h4.1, rl.mono (e3.trans e4), q4⟩
        · exact f2.elim
section
variable {X : Cx} {E : WX}
theorem jl_compX {elt tg iter : Expr} {ifs : List Expr} {scope : Scope} {own : List (Str × Nat)} {pos : Pos} {mi : MI} {g : TG} {b : BW} {mt : MT} {me : ME} (hst : X.stack = X.env :: X.outer) (hfm : X.env.frame = some X.env.locals) (tk : Takes X E) (hc : X.calm = true) (hN : X.N.Nodup) (hi : JI X E tg iter mi) (ok : BlkOk X.N X.env.scope scope own) (hb : Binds1 X.K g (own.map (·.2)) b)
    (hg : ∀ (s : Shared) (H : Hp) (C : Addr) (cl : List (Str × Addr)) (fp : List Addr) (xb : Value → Shared → Prop), PG (blkX X s H scope (compEnvC scope cl C X.env) fp xb) tg g)
    (ht : ∀ (s : Shared) (H : Hp) (C : Addr) (cl : List (Str × Addr)) (fp : List Addr) (xb : Value → Shared → Prop), JTs (blkX X s H scope (compEnvC scope cl C X.env) fp xb) (fun _ _ _ _ => False) ifs mt)
    (he : ∀ (s : Shared) (H : Hp) (C : Addr) (cl : List (Str × Addr)) (fp : List Addr) (xb : Value → Shared → Prop) (Eo : XK), Takes (blkX X s H scope (compEnvC scope cl C X.env) fp xb) (fun c d _ H' => Eo c d H') → JE (blkX X s H scope (compEnvC scope cl C X.env) fp xb) (fun c d _ H' => Eo c d H') elt me)
    (hs : ∀ x, foldedSetIterable iter X.env x = pure x := by intro _; rfl) : JL X E (.ListComp elt [⟨tg, iter, ifs, 0⟩] scope pos) (mCompX mi b mt me (own.map (·.2))) :=
  PE.weak (pe_lcX (W := E) (tt := rdT X.K (fun _ _ _ _ => False) mt) (te := fun Eo => rdE X.K (fun c d _ H' => Eo c d H') me) hst hfm tk hc hN hi ok hg ht he hs) fun _ _ _ q => comp_weakX hb q
/-! ### a module's tuples -/
def Gtup (K : Frg) (mg : Str → Option Value) (x : Str) (ws : List Dt) : Prop := ∃ a xs, mg x = some (.ref a) ∧ KT K a xs ∧ ∀ P S H, RpL K P S H ws xs
theorem je_gt {x : Str} {ws : List Dt} {pos : Pos} (hg : Gl X x) (hm : Gtup X.K X.mg x ws) (hd : (x == ("__debug__" : Str)) = false := by decide) : JE X E (.Name x pos) (mC (.kt ws)) :=
  let ⟨a, xs, h1, h2, h3⟩ := hm
  je_c (pe_glob (v := .ref a) hg h1 rfl hd) fun P S H => by
    unfold Rp
    exact ⟨a, xs, rfl, h2, h3 P S H⟩
/-- the plain items of a written tuple -/
def litV : Dt → Option V
  | .int i => some (.int i)
  | .str z => some (.str z)
  | _ => none
def litVs : List Dt → Option (List V)
  | [] => some []
  | w :: ws => match litV w, litVs ws with
    | some v, some vs => some (v :: vs)
    | _, _ => none
theorem litVs_rp {K : Frg} : ∀ {ws : List Dt} {vs : List V}, litVs ws = some vs → ∀ P S H, RpL K P S H ws vs
  | [], vs, h, P, S, H => by cases h; exact RpL.nil
  | w :: ws, vs, h, P, S, H => by
    unfold litVs at h
    split at h
    · rename_i v us e1 e2
      cases h
      refine RpL.cons ?_ (litVs_rp e2 P S H)
      cases w with
      | int i => cases e1; unfold Rp; rfl
      | str z => cases e1; unfold Rp; rfl
      | _ => cases e1
    · cases h
theorem gtup_mk {K : Frg} {mg : Str → Option Value} {h : Heap} {x : Str} {ws : List Dt} {vs : List V} {a : Addr} {its : Array Value} {n : Nat} {sl : Array (Option Value)} (X : K.In h) (G : h.Ns mainGlobals mg) (e : PySem.W.nsIn K mainGlobals x = some (some (.ref a)))
    (l : K.lookup a = some ⟨.type "tuple", none, .seq its n, sl⟩) (hv : litVs ws = some vs) (hz : its.size ≤ sizeLine) (hr : Vals vs its.toList) : Gtup K mg x ws :=
  ⟨a, vs, PySem.W.mg_of X G e, ⟨.inr ⟨_, its, n, l, rfl, rfl, hz, hr⟩, _, l, rfl, rfl⟩, fun P S H => litVs_rp hv P S H⟩
/-- t.index(text), t a written tuple of texts -/
def findW (z : Str) : List Dt → Nat → Option Nat
  | .str y :: ws, k => if y = z then some k else findW z ws (k + 1)
  | _, _ => none
def pyTIndex : Dt → OpN
  | .kt ws, [.str z], S, Q => match findW z ws 0 with
    | some k => (ws.all fun w => match w with | .str _ => true | _ => false) = true ∧ Q (.int (k : Nat)) S
    | none => False
  | _, _, _, _ => False
theorem findW_of {z : Str} : ∀ {ys : List Str} {k j : Nat}, findW z (strsW ys) k = some j → ∃ i, j = k + i ∧ ys[i]? = some z ∧ ∀ m, m < i → ys[m]? ≠ some z
  | [], k, j, h => by cases h
  | y :: ys, k, j, h => by
    change (if y = z then some k else findW z (strsW ys) (k + 1)) = some j at h
    by_cases e : y = z
    · rw [if_pos e] at h
      cases h
      exact ⟨0, rfl, by rw [e]; rfl, fun m hm => absurd hm (Nat.not_lt_zero _)⟩
    · rw [if_neg e] at h
      obtain ⟨i, e1, e2, e3⟩ := findW_of h
      refine ⟨i + 1, by omega, by simpa using e2, fun m hm => ?_⟩
      cases m with
      | zero => intro q; simp at q; exact e q
      | succ m =>
        have := e3 m (by omega)
        simpa using this
theorem strsW_of : ∀ {ws : List Dt}, (ws.all fun w => match w with | .str _ => true | _ => false) = true → ∃ ys, ws = strsW ys
  | [], _ => ⟨[], rfl⟩
  | w :: ws, h => by
    rw [List.all_cons, Bool.and_eq_true] at h
    obtain ⟨ys, rfl⟩ := strsW_of h.2
    cases w with
    | str y => exact ⟨y :: ys, rfl⟩
    | _ => cases h.1
theorem m_tindex : MtR X "tuple.index" (rdM X.K pyTIndex) := by
  intro pins s σ H x vs v us Qv I rx rv h
  obtain ⟨P, S, w, ws, Q, W, r1, r2, g, nq⟩ := h
  unfold pyTIndex at g
  split at g
  · rename_i ts z
    obtain ⟨a, xs, rfl, h1, rl⟩ := rp_kt r1
    obtain ⟨y, rfl, r3⟩ := r2.one
    rw [rp_str] at r3
    subst r3
    split at g
    · rename_i k ek
      obtain ⟨ys, rfl⟩ := strsW_of g.1
      obtain ⟨i, e1, e2, e3⟩ := findW_of ek
      rw [Nat.zero_add] at e1
      subst e1
      have ex := strs_rp rl
      refine mt_tup_index pins s σ H _ _ v us Qv I rx rv ⟨a, ys, z, k, rfl, rfl, by rw [← ex]; exact h1.sq, e2, e3, nq.now W rpInt g.2⟩
    · exact g.elim
  · exact g.elim
/-! ### a, o.f = .. -/
theorem jg_fld {C0 : Addr} {ns0 : List Str} {i : Nat} {f : Str} {o : Expr} {mo : ME} {pos : Pos} (T : FldC X.K C0 f) (hi : FieldAt ns0 i f) (hn : ns0.length < 1000) (ho : JE X E o mo) :
    JG X E (.Attribute o f pos) (fun w σ S Q Ex => mo σ S (fun z S1 => stF C0 ns0 i w (fun S2 => Q σ S2) z S1) (fun x S1 => Ex x σ S1)) := by
  refine ⟨fun pins s σv H v u R I r h => ?_⟩
  obtain ⟨P, S, σ, w, Q, Ex, W, rs, rw', m, nn, nx⟩ := h
  refine PySem.W.kas_attr (thn (ho.run pins s σv H (fun y H2 => ∃ a dx fs, y = .ref a ∧ H2 a = some (.ins C0 dx fs) ∧ fs.length < 1000 ∧ R σv (upd H2 a (.ins C0 dx (putF f v fs)))) I ⟨P, S, σ, _, _, W, rs, m, fun y H2 z S2 W2 r2 e2 m2 => ?_, nx.at rs⟩) fun ov s1 q => ?_)
  · unfold stF at m2
    dsimp only at m2
    split at m2
    · rename_i a
      split at m2
      · rename_i C ns ws ea
        obtain ⟨rfl, rfl, m2⟩ := m2
        rw [rp_ref] at r2
        subst r2
        obtain ⟨dx, xs, eh, hz, rl⟩ := W2.sim a _ ea
        have hl : xs.length = ns.length := by rw [← rl.length]; exact hz.symm
        refine ⟨a, dx, _, rfl, eh, by rw [List.length_zip]; omega, ?_⟩
        rw [zip_put hi.1 hi.2 hl]
        have ev : Evo S2 H2 (sup S2 a (.ins C ns (ws.set i w))) (upd H2 a (.ins C dx (ns.zip (xs.set i v)))) := Evo.set ea
        exact nn _ _ _ _ (W2.putI ea (by rw [List.length_set]; exact hz) ((rl.set i (rw'.mono e2)).mono ev)) (rs.mono (e2.trans ev)) (e2.trans ev) m2
      · exact m2.elim
    · exact m2.elim
  · obtain ⟨y, H2, I2, r2, a, dx, fs, rfl, ea, hl, q⟩ := q
    obtain rfl : ov = Value.ref a := r2
    exact setattr_ok I2 ea T.cl T.no hl r fun s3 I3 => ⟨σv, _, I3, q⟩
end
end Dn
namespace Dn
open PySem PySem.Spec PyProof.Rows L2
theorem compX_inv {α : Type} {b : BW} {mt : MT} {me : ME} {σ : Env} {vs : List Nat} {gd : Store → Prop} {Q : List Dt → Store → Prop} {Ex : Exn → Store → Prop} (F : α → Dt) (J : Nat → List Dt → Store → Prop) : ∀ (xs : List α) (i : Nat) (acc : List Dt) (S : Store),
    (∀ j x, i ≤ j → xs[j - i]? = some x → ∀ acc S, J j acc S → gd S ∧ ∃ σ1, b (F x) (wipeW σ vs) = some σ1 ∧ ∀ N : List Dt → Store → Prop, (∀ acc' S', J (j + 1) acc' S' → N acc' S') → mt σ1 S (fun c S2 => br c (me σ1 S2 (fun y S3 => acc.length < sizeLine ∧ N (acc ++ [y]) S3) Ex) (N acc S2)) (fun _ _ => False)) →
    J i acc S → (∀ acc S, J (i + xs.length) acc S → gd S ∧ Q acc S) → compWX b mt me σ vs gd Q Ex (xs.map F) acc S
  | [], i, acc, S, _, j, e => by
    rw [List.map_nil]
    unfold compWX
    exact e acc S j
  | x :: xs, i, acc, S, h, j, e => by
    rw [List.map_cons]
    unfold compWX
    obtain ⟨g, σ1, eb, k⟩ := h i x (Nat.le_refl _) (by rw [Nat.sub_self]; rfl) acc S j
    refine ⟨g, ?_⟩
    rw [eb]
    refine k _ fun acc' S' j' => compX_inv F J xs (i + 1) acc' S' (fun j2 y h1 h2 => h j2 y (by omega) (by
      rw [show j2 - i = (j2 - (i + 1)) + 1 by omega, List.getElem?_cons_succ]
      exact h2)) j' fun acc S z => e acc S (by rw [List.length_cons, show i + (xs.length + 1) = i + 1 + xs.length by omega]; exact z)
/-! ### tuple(range(n)), list(range(n)) -/
section
variable {X : Cx} {E : WX}
def rngQ (Q : List Dt → Store → Prop) (w : Dt) (S : Store) : Prop := match w with
  | .int n => n ≤ 16777216 ∧ -16777216 ≤ n ∧ Q (rangeW 0 n.toNat) S
  | _ => False
theorem rg_rp {K : Frg} {P : Hid} {S : Store} {H : Hp} : ∀ (n : Nat) (lo : Int), RpL K P S H (rangeW lo n) ((List.range n).map fun (i : Nat) => V.int (lo + (i : Nat)))
  | 0, lo => by rw [show (List.range 0).map (fun (i : Nat) => V.int (lo + (i : Nat))) = [] from rfl]; exact RpL.nil
  | n + 1, lo => by
    rw [List.range_succ_eq_map, List.map_cons, List.map_map]
    refine RpL.cons (by unfold Rp; rw [show lo + ((0 : Nat) : Int) = lo by omega]) ?_
    rw [show (fun (i : Nat) => V.int (lo + (i : Nat))) ∘ Nat.succ = fun (i : Nat) => V.int ((lo + 1) + (i : Nat)) from funext fun i => by
      show V.int (lo + ((i + 1 : Nat) : Int)) = _
      congr 1
      omega]
    exact rg_rp n (lo + 1)
theorem je_tupRg {a : Expr} {ma : ME} {p q pos pos2 : Pos} (hc : X.calm = true) (hg : Gl X "tuple") (hm : X.mg "tuple" = none) (hg2 : Gl X "range") (hm2 : X.mg "range" = none) (ha : JE X E a ma)
    (na : starEach [.Call (.Name "range" q) [a] [] pos2] X.env = (false, eval (.Call (.Name "range" q) [a] [] pos2) X.env) :: starEach [] X.env := by rfl) (nb : starEach [a] X.env = (false, eval a X.env) :: starEach [] X.env := by rfl) :
    JE X E (.Call (.Name "tuple" p) [.Call (.Name "range" q) [a] [] pos2] [] pos) (fun σ S Q Ex => ma σ S (rngQ fun ws S1 => Q (.tup ws) S1) Ex) := PE.weak (pe_tupRg hc hg hm (prg_1 hg2 hm2 ha nb) na) fun σv H Qv h => by
  obtain ⟨P, S, σ, Q, Ex, W, r, m, nq, nx⟩ := h
  refine ⟨P, S, σ, _, Ex, W, r, m, fun v H1 w S1 W1 r1 e1 m1 => ?_, nx⟩
  unfold rngQ at m1
  split at m1
  · rename_i n
    rw [rp_int] at r1
    subst r1
    refine ⟨n, rfl, ⟨by omega, by omega, by omega, by omega, by omega⟩, fun D hD => ?_⟩
    have q := (nq.after e1).tup W1 (rg_rp n.toNat 0) m1.2.2 hD
    unfold rgV
    rw [Int.sub_zero]
    exact q
  · exact m1.elim
end
end Dn

/-! Dn: range(n) for n of any size. -/
namespace Dn
open PySem PySem.Spec PyProof.Rows L2 PySem.W
theorem turn_long {P : Program} {w : World} {K : Frg} {tg : Expr} (it : Addr) (lo : Int) (n : Nat) : Turn P w K tg (Itr lo n) [it] it (fun i h => IsLongIter h it (lo + (i : Nat) * 1) ((n : Int) - (i : Nat)) 1) where
  mem := List.mem_singleton.mpr rfl
  obj := fun i h st b hb => by
    rw [List.mem_singleton] at hb
    subst hb
    refine ⟨_, st, fun v z => ?_⟩
    have z : Data.fields _ = Data.cell v := z
    cases z
  keep := fun i h h' st k => k it (List.mem_singleton.mpr rfl) _ st
  item := fun X hP hw hK hc i pins s σ H E I hf st hg => by
    subst hP hw hK
    obtain ⟨f0, f1, f2, f3, f4, f5⟩ := hf it (List.mem_singleton.mpr rfl)
    refine (Walks.longrange (prog := X.prog) (w := X.w) (I.ok.hd hc) it lo 1 n).item i s _ _ hg st fun v h' tk hv st' kk => ?_
    obtain ⟨t, rfl⟩ := hv
    have I1 : L2.Inv X pins σ H { s with heap := h', toks := tk } := I.turned (fun b o hb e => kk b o (by rw [List.mem_singleton]; exact hb) e) f0 f1 f3 f4 f5
    refine ⟨_, rfl, go_of (s := { s with heap := h', toks := tk }) (n := "longrange_iterator") st' rfl rfl (by decide) ⟨.int (lo + i), H, I1, ⟨t, ?_⟩, ⟨rfl, rfl⟩, st', fun b hb => (hf b hb).1⟩⟩
    rw [Int.mul_one]
  done := fun X hP hw hK hc i pins s σ H E I hf st hg => by
    subst hP hw hK
    obtain ⟨f0, f1, f2, f3, f4, f5⟩ := hf it (List.mem_singleton.mpr rfl)
    have hg : n ≤ i := hg
    exact wpAny_pyNext_long_end (I.ok.hd hc) st (by omega) fun h' eb => ⟨rfl, I.turned (t' := s.toks) (fun b o hb e => eb b o hb e) f0 f1 f3 f4 f5⟩
  self := fun _ _ _ _ _ st h => wpAny_pyIter_longiter st h
section
variable {X : Cx} {E : WX}
theorem range_itB {tg : Expr} {pins : List (Addr × Obj)} {σ : L2.St} {H : Hp} {s : Shared} {R : It → Hp → Prop} {Ev : Value → Shared → Prop} {lo hi : Int} {t u v : Tok} {tk : Nat} (I : L2.Inv X pins σ H s) (q : R (Itr lo (hi - lo).toNat) H) :
    wpAny (model X.prog X.w) X.A (pyIter (.ref s.heap.objs.size)) (PIE X pins σ tg R) Ev { s with heap := s.heap.push { cls := .type "range", data := .fields #[.int lo t, .int hi u, .int 1 v] }, toks := tk } := by
  have I1 : L2.Inv X pins σ H { s with heap := s.heap.push { cls := .type "range", data := .fields #[.int lo t, .int hi u, .int 1 v] }, toks := tk } := I.kept fun b o e => Heap.get?_push_of_some _ e
  have e1 : lo + ((0 : Nat) : Int) * 1 = lo := by omega
  have e2 : (((hi - lo).toNat : Nat) : Int) - ((0 : Nat) : Int) = Builtin.Range.rangeSize lo hi 1 := by rw [rangeSize_one]; split <;> omega
  have fp : ∀ b ∈ [(s.heap.push { cls := .type "range", data := .fields #[.int lo t, .int hi u, .int 1 v] }).objs.size], FpOk X pins H b := fun b hb => by
    rw [List.mem_singleton] at hb
    subst hb
    exact I1.fpOk (Nat.le_refl _) (I1.hok.fresh (Nat.le_refl _))
  cases hs : Builtin.Range.small lo hi 1 with
  | true =>
    refine wpAny_pyIter_range (IsRange.new ..) hs ⟨_, _, _, _, H, rfl, I1.kept (t' := tk) fun b o e => Heap.get?_push_of_some _ e, turn_range _ lo (hi - lo).toNat, ?_, fp, q⟩
    show IsRangeIter _ _ (lo + ((0 : Nat) : Int) * 1) ((((hi - lo).toNat : Nat) : Int) - ((0 : Nat) : Int)) 1
    rw [e1, e2]
    exact Heap.get?_push_size _ rfl
  | false =>
    refine wpAny_pyIter_longrange (IsRange.new ..) hs ⟨_, _, _, _, H, rfl, I1.kept (t' := tk) fun b o e => Heap.get?_push_of_some _ e, turn_long _ lo (hi - lo).toNat, ?_, fp, q⟩
    show IsLongIter _ _ (lo + ((0 : Nat) : Int) * 1) ((((hi - lo).toNat : Nat) : Int) - ((0 : Nat) : Int)) 1
    rw [e1, e2]
    exact Heap.get?_push_size _ rfl
def iRngB (ta : TA) : TI := fun σ H R => ta σ H fun vs H1 => ∃ j : Int, vs = [.int j] ∧ R (Itr 0 j.toNat) H1
theorem pi_rangeB {tg a : Expr} {ta : TA} {p pos : Pos} (hg : Gl X "range") (hm : X.mg "range" = none) (ha : PA X [a] ta) (hs : starEach [a] X.env = [(false, eval a X.env)] := by rfl) : PI X tg (.Call (.Name "range" p) [a] [] pos) (iRngB ta) := by
  refine ⟨fun pins s σ H R I h => Call_ (ld_blt I hg hm boot_range (PyProof.Rows.callWith_type1 (thn (ha.run pos pins s σ H _ I h) fun us s1 ⟨vs, H1, I1, r1, q1⟩ => ?_) hs rfl))⟩
  obtain ⟨j, rfl, q⟩ := q1
  cases r1 with
  | cons r rr =>
    cases rr
    obtain ⟨t, rfl⟩ := r
    exact call_range_1 (range_itB I1 (by rw [Int.sub_zero]; exact q))
def mRngB (m : MA) : MI := fun σ S Q Ex => m σ S (fun ws S1 => match ws with | [.int n] => Q (rangeW 0 n.toNat) (fun _ => True) S1 | _ => False) Ex
theorem ji_rngB {tg a : Expr} {m : MA} {p pos : Pos} (hg : Gl X "range") (hm : X.mg "range" = none) (ha : JA X E [a] m) (hs : starEach [a] X.env = [(false, eval a X.env)] := by rfl) : JI X E tg (.Call (.Name "range" p) [a] [] pos) (mRngB m) := PI.weak (pi_rangeB hg hm ha hs) fun σv H R q => by
  obtain ⟨P, S, σ, Q, Ex, W, r, m, nj, nx⟩ := q
  refine ⟨P, S, σ, _, Ex, W, r, m, fun v H1 w S1 W1 r1 e1 m1 => ?_, nx⟩
  dsimp only at m1
  split at m1
  · obtain ⟨y, rfl, r2⟩ := r1.one
    rw [rp_int] at r2
    subst r2
    exact ⟨_, rfl, nj _ H1 _ _ S1 W1 e1 rng_deliv m1⟩
  · exact m1.elim
end
end Dn
namespace Dn
open PySem PySem.Spec PyProof.Rows L2 PySem.W
/-! ### max, min of a tuple of numbers -/
theorem reads_ints {h : Heap} : ∀ {ns : List Int} {its : List Value}, Vals (ns.map V.int) its → ReadsAll h its (ns.map PyData.int) []
  | [], its, r => by cases r; exact .nil
  | n :: ns, its, r => by
    rw [List.map_cons] at r
    cases r with
    | cons r1 r2 =>
      obtain ⟨t, rfl⟩ := r1
      exact ReadsAll.cons (as := []) (.int n t) (reads_ints r2)
theorem alike_ints (ns : List Int) : AlikeAll (ns.map PyData.int) := by
  refine ⟨fun x hx y hy => ?_, fun x hx => ?_⟩
  · obtain ⟨i, _, rfl⟩ := List.mem_map.mp hx
    obtain ⟨j, _, rfl⟩ := List.mem_map.mp hy
    rfl
  · obtain ⟨i, _, rfl⟩ := List.mem_map.mp hx
    exact fun z => by cases z
theorem depth_ints : ∀ ns : List Int, PyData.depthAll (ns.map PyData.int) ≤ 1
  | [] => Nat.zero_le _
  | n :: ns => by
    have := depth_ints ns
    rw [List.map_cons]
    unfold PyData.depthAll
    refine Nat.max_le.mpr ⟨?_, this⟩
    unfold PyData.depth
    decide
theorem fold_max : ∀ (ns : List Int) (n : Int), (ns.foldl max n = n ∨ ns.foldl max n ∈ ns) ∧ n ≤ ns.foldl max n ∧ ∀ y ∈ ns, y ≤ ns.foldl max n
  | [], n => ⟨.inl rfl, Int.le_refl _, (fun y h => nomatch h)⟩
  | m :: ns, n => by
    obtain ⟨h1, h2, h3⟩ := fold_max ns (max n m)
    rw [List.foldl_cons]
    refine ⟨?_, by omega, fun y hy => ?_⟩
    · rcases h1 with h1 | h1
      · rw [h1]
        by_cases z : n ≤ m
        · exact .inr (by rw [show max n m = m by omega]; exact List.mem_cons_self)
        · exact .inl (by omega)
      · exact .inr (List.mem_cons_of_mem _ h1)
    · rcases List.mem_cons.mp hy with rfl | hy
      · omega
      · exact h3 y hy
theorem fold_min : ∀ (ns : List Int) (n : Int), (ns.foldl min n = n ∨ ns.foldl min n ∈ ns) ∧ ns.foldl min n ≤ n ∧ ∀ y ∈ ns, ns.foldl min n ≤ y
  | [], n => ⟨.inl rfl, Int.le_refl _, (fun y h => nomatch h)⟩
  | m :: ns, n => by
    obtain ⟨h1, h2, h3⟩ := fold_min ns (min n m)
    rw [List.foldl_cons]
    refine ⟨?_, by omega, fun y hy => ?_⟩
    · rcases h1 with h1 | h1
      · rw [h1]
        by_cases z : m ≤ n
        · exact .inr (by rw [show min n m = m by omega]; exact List.mem_cons_self)
        · exact .inl (by omega)
      · exact .inr (List.mem_cons_of_mem _ h1)
    · rcases List.mem_cons.mp hy with rfl | hy
      · omega
      · exact h3 y hy
def pyMaxT : OpN
  | [.tup ws], S, Q => ∃ ns : List Int, ws = ns.map Dt.int ∧ 0 < ns.length ∧ ∀ m, m ∈ ns → (∀ y, y ∈ ns → y ≤ m) → Q (.int m) S
  | ws, S, Q => pyMax ws S Q
def pyMinT : OpN
  | [.tup ws], S, Q => ∃ ns : List Int, ws = ns.map Dt.int ∧ 0 < ns.length ∧ ∀ m, m ∈ ns → (∀ y, y ∈ ns → m ≤ y) → Q (.int m) S
  | ws, S, Q => pyMin ws S Q
section
variable {X : Cx}
theorem c_maxT (hc : X.calm = true) (hu : X.A.units + 64 < cLine) : CallR X (.builtin "max") (rdN X.K pyMaxT) := by
  intro pins s σ H vs us Qv I rv h
  obtain ⟨P, S, ws, Q, W, r, g, nq⟩ := h
  unfold pyMaxT at g
  split at g
  · obtain ⟨ns, rfl, g0, g⟩ := g
    obtain ⟨v, rfl, r1⟩ := r.one
    obtain ⟨a, xs, rfl, h1, rl⟩ := rp_tup r1
    rw [rl.mapInt] at h1
    obtain ⟨its, rv2, ht, _⟩ := I.tuple h1
    rw [Vals.ref1 rv]
    cases ns with
    | nil => exact absurd g0 (by decide)
    | cons n ns =>
      refine max_tuple_data (I.ok.hd hc) (vs := its.toArray) ht (x := .int n) (xs := ns.map .int) (as := []) (by
        have := reads_ints (h := s.heap) rv2
        simpa using this) (alike_ints (n :: ns)) (by
        have := depth_ints (n :: ns)
        rw [List.map_cons] at this
        omega) fun i v h' tk bs e r2 k => ?_
      rw [maxD_ints] at r2
      cases r2
      obtain ⟨m1, m2, m3⟩ := fold_max ns n
      refine ⟨.int (ns.foldl max n), H, I.kept k, ⟨_, rfl⟩, nq.now W rpInt (g _ ?_ fun y hy => ?_)⟩
      · rcases m1 with m1 | m1
        · rw [m1]; exact List.mem_cons_self
        · exact List.mem_cons_of_mem _ m1
      · rcases List.mem_cons.mp hy with rfl | hy
        · exact m2
        · exact m3 y hy
  · exact c_max hc pins s σ H vs us Qv I rv ⟨P, S, ws, Q, W, r, g, nq⟩
theorem c_minT (hc : X.calm = true) (hu : X.A.units + 64 < cLine) : CallR X (.builtin "min") (rdN X.K pyMinT) := by
  intro pins s σ H vs us Qv I rv h
  obtain ⟨P, S, ws, Q, W, r, g, nq⟩ := h
  unfold pyMinT at g
  split at g
  · obtain ⟨ns, rfl, g0, g⟩ := g
    obtain ⟨v, rfl, r1⟩ := r.one
    obtain ⟨a, xs, rfl, h1, rl⟩ := rp_tup r1
    rw [rl.mapInt] at h1
    obtain ⟨its, rv2, ht, _⟩ := I.tuple h1
    rw [Vals.ref1 rv]
    cases ns with
    | nil => exact absurd g0 (by decide)
    | cons n ns =>
      refine min_tuple_data (I.ok.hd hc) (vs := its.toArray) ht (x := .int n) (xs := ns.map .int) (as := []) (by
        have := reads_ints (h := s.heap) rv2
        simpa using this) (alike_ints (n :: ns)) (by
        have := depth_ints (n :: ns)
        rw [List.map_cons] at this
        omega) fun i v h' tk bs e r2 k => ?_
      rw [minD_ints] at r2
      cases r2
      obtain ⟨m1, m2, m3⟩ := fold_min ns n
      refine ⟨.int (ns.foldl min n), H, I.kept k, ⟨_, rfl⟩, nq.now W rpInt (g _ ?_ fun y hy => ?_)⟩
      · rcases m1 with m1 | m1
        · rw [m1]; exact List.mem_cons_self
        · exact List.mem_cons_of_mem _ m1
      · rcases List.mem_cons.mp hy with rfl | hy
        · exact m2
        · exact m3 y hy
  · exact c_min hc pins s σ H vs us Qv I rv ⟨P, S, ws, Q, W, r, g, nq⟩
end
end Dn
namespace Dn
open PySem PySem.Spec PyProof.Rows L2
section
variable {X : Cx} {E : WX}
/-- a, b, c = x, y, z -/
def mPar3 (i j l : Nat) (ma : MA) : MS := fun D σ S => ma σ S (fun ws S1 => match ws with | [v, w, z] => D.nx (((σ.set i (some v)).set j (some w)).set l (some z)) S1 | _ => False) (fun x S' => D.ex x σ S')
theorem js_par3 {i j l : Nat} {x y z : Str} {a b c : Expr} {ma : MA} {px py pz pt pos : Pos} {kt k2 pt2} (hc : X.calm = true) (hN : X.N.Nodup) (hi : X.N[i]? = some x) (hj : X.N[j]? = some y) (hl : X.N[l]? = some z) (hij : i ≠ j) (hil : i ≠ l) (hjl : j ≠ l)
    (hx : X.env.scope.names.lookup x = some .local) (hy : X.env.scope.names.lookup y = some .local) (hz : X.env.scope.names.lookup z = some .local) (ha : JA X E [a, b, c] ma)
    (hw : swappedStores [.Tuple [.Name x px, .Name y py, .Name z pz] kt pt] (.Tuple [a, b, c] k2 pt2) X.env = pure (some [x, y, z]) := by rfl)
    (hs : swapsWithSole [.Tuple [.Name x px, .Name y py, .Name z pz] kt pt] (.Tuple [a, b, c] k2 pt2) pos.line X.env = pure false := by rfl) :
    JS X E (.Assign [.Tuple [.Name x px, .Name y py, .Name z pz] kt pt] (.Tuple [a, b, c] k2 pt2) pos) (mPar3 i j l ma) := PS.weak (ps_par3 hc hN hi hj hl hij hil hjl hx hy hz ha hw hs) fun σv H D q => by
  obtain ⟨P, S, σ, Dw, W, r, m, d⟩ := q
  refine ⟨P, S, σ, _, _, W, r, m, fun vs H' ws S' W' rl e' q' => ?_, d.ex.at r⟩
  match ws, q' with
  | [v, w, u], q' =>
    obtain ⟨v1, rr, rfl, r1, rl⟩ := (show ∃ v1 rr, vs = v1 :: rr ∧ Rp X.K P S' H' v v1 ∧ RpL X.K P S' H' [w, u] rr by unfold RpL at rl; exact rl)
    obtain ⟨v2, v3, rfl, r2, r3⟩ := rl.two
    exact ⟨v1, v2, v3, rfl, d.nx _ H' _ S' W' ((((r.mono e').set r1).set r2).set r3) e' q'⟩
end
end Dn

/-! Dn: in, not in over tuples of deep data. -/
namespace Dn
open PySem PySem.Spec PyProof.Rows L2 PySem.W
theorem any_memW {w : Dt} {d : PyData} (hw : toP w = some d) : ∀ {ws : List Dt} {ds : List PyData}, toP.toPL ws = some ds → ds.any (fun y => PyData.eqv y d) = memW w ws
  | [], ds, h => by
    unfold toP.toPL at h
    cases h
    rfl
  | z :: ws, ds, h => by
    unfold toP.toPL at h
    split at h
    · rename_i e es h1 h2
      cases h
      rw [List.any_cons, any_memW hw h2, eqv_eqD _ z w e d (Nat.lt_succ_self _) h1 hw]
      rfl
    · cases h
def pyInD (neg : Bool) : Op2 := fun w z S Q => match z with
  | .tup ws => (fl 60 w = true ∧ fl 60 (.tup ws) = true) ∧ Q (.bl (if neg then !memW w ws else memW w ws)) S
  | _ => False
section
variable {X : Cx} {E : WX}
theorem o_inD (hu : X.A.units + 64 < cLine) : OpR X (compareOp .In) (rd2 X.K (pyInD false)) := by
  intro pins s σ H x y v u Qv I rx ry q
  obtain ⟨P, S, w, z, Q, W, r1, r2, g, nq⟩ := q
  unfold pyInD at g
  split at g
  · rename_i ws
    obtain ⟨⟨g1, g2⟩, g3⟩ := g
    obtain ⟨d, ed, cd, zd⟩ := fl_toP 60 w g1
    obtain ⟨e, ee, ce, ze⟩ := fl_toP 60 (.tup ws) g2
    obtain ⟨as, q1⟩ := Dp.reads I d x v (toP_of _ _ _ r1 ed) rx
    obtain ⟨bs, q2⟩ := Dp.reads I e y u (toP_of _ _ _ r2 ee) ry
    unfold toP at ee
    cases ez : toP.toPL ws with
    | none => rw [ez] at ee; cases ee
    | some ds =>
      rw [ez] at ee
      cases ee
      unfold PyData.canLay0 at ce
      refine SeqAt.in_tuple_reads q2 q1 ce cd (Nat.lt_of_le_of_lt (Nat.add_le_add_left (Nat.le_trans (Nat.min_le_right _ _) zd) _) (by omega)) ⟨.bl _, H, I, rfl, ?_⟩
      rw [any_memW ed ez]
      exact nq.now W rpBl g3
  · exact g.elim
theorem o_notinD (hu : X.A.units + 64 < cLine) : OpR X (compareOp .NotIn) (rd2 X.K (pyInD true)) := by
  intro pins s σ H x y v u Qv I rx ry q
  obtain ⟨P, S, w, z, Q, W, r1, r2, g, nq⟩ := q
  unfold pyInD at g
  split at g
  · rename_i ws
    obtain ⟨⟨g1, g2⟩, g3⟩ := g
    obtain ⟨d, ed, cd, zd⟩ := fl_toP 60 w g1
    obtain ⟨e, ee, ce, ze⟩ := fl_toP 60 (.tup ws) g2
    obtain ⟨as, q1⟩ := Dp.reads I d x v (toP_of _ _ _ r1 ed) rx
    obtain ⟨bs, q2⟩ := Dp.reads I e y u (toP_of _ _ _ r2 ee) ry
    unfold toP at ee
    cases ez : toP.toPL ws with
    | none => rw [ez] at ee; cases ee
    | some ds =>
      rw [ez] at ee
      cases ee
      unfold PyData.canLay0 at ce
      refine SeqAt.notIn_tuple_reads q2 q1 ce cd (Nat.lt_of_le_of_lt (Nat.add_le_add_left (Nat.le_trans (Nat.min_le_right _ _) zd) _) (by omega)) ⟨.bl _, H, I, rfl, ?_⟩
      rw [any_memW ed ez]
      exact nq.now W rpBl g3
  · exact g.elim
end
end Dn

namespace Lw
open PySem PySem.Spec PyProof.Rows L2 Dn
/-! ### the text -/
def topS (i : Nat) : Stmt := PySem.Challenge.pw_allbrought_k32_whole_rows_of_letters_jud.main.body.getD i (.Pass ⟨0, 0, 0, 0⟩)
abbrev s__law_hand : Stmt := topS 84
abbrev N__law_hand : List Str := ["_law_script", "_law_cells", "_law_cell"]
theorem sc__law_hand : FnScope N__law_hand ["_law_script"] (defScope s__law_hand) := ⟨rfl, rfl, rfl, by decide +kernel, rfl, by decide +kernel, by decide +kernel⟩
abbrev s__law_draw : Stmt := topS 85
abbrev N__law_draw : List Str := ["_law_hand_here", "_law_many", "_law_number", "_law_cell", "_law_digit"]
theorem sc__law_draw : FnScope N__law_draw ["_law_hand_here", "_law_many"] (defScope s__law_draw) := ⟨rfl, rfl, rfl, by decide +kernel, rfl, by decide +kernel, by decide +kernel⟩
abbrev s__law_mark : Stmt := topS 88
abbrev N__law_mark : List Str := ["_law_row", "_law_found", "_law_byte"]
theorem sc__law_mark : FnScope N__law_mark ["_law_row"] (defScope s__law_mark) := ⟨rfl, rfl, rfl, by decide +kernel, rfl, by decide +kernel, by decide +kernel⟩
abbrev s__law_seal : Stmt := topS 89
abbrev N__law_seal : List Str := ["_law_row", "_law_left", "_law_power"]
theorem sc__law_seal : FnScope N__law_seal ["_law_row"] (defScope s__law_seal) := ⟨rfl, rfl, rfl, by decide +kernel, rfl, by decide +kernel, by decide +kernel⟩
abbrev s__law_bent_row : Stmt := topS 90
abbrev N__law_bent_row : List Str := ["_law_hand_here", "_law_row", "_law_at", "_law_byte", "_law_inner", "_law_bent"]
theorem sc__law_bent_row : FnScope N__law_bent_row ["_law_hand_here", "_law_row"] (defScope s__law_bent_row) := ⟨rfl, rfl, rfl, by decide +kernel, rfl, by decide +kernel, by decide +kernel⟩
abbrev s_all_spots : Stmt := topS 24
abbrev N_all_spots : List Str := ["rows", "found", "row", "signs", "column", "sign"]
theorem sc_all_spots : FnScope N_all_spots ["rows"] (defScope s_all_spots) := ⟨rfl, rfl, rfl, by decide +kernel, rfl, by decide +kernel, by decide +kernel⟩
abbrev s_all_ties : Stmt := topS 25
abbrev N_all_ties : List Str := ["spots", "numbers", "found", "row", "column", "around", "cell", "spot"]
theorem sc_all_ties : FnScope N_all_ties ["spots"] (defScope s_all_ties) := ⟨rfl, rfl, rfl, by decide +kernel, rfl, by decide +kernel, by decide +kernel⟩
abbrev s_spots_of : Stmt := topS 26
abbrev N_spots_of : List Str := ["rows", "spots", "sign", "cell", "row", "column"]
theorem sc_spots_of : FnScope N_spots_of ["rows", "spots", "sign"] (defScope s_spots_of) := ⟨rfl, rfl, rfl, by decide +kernel, rfl, by decide +kernel, by decide +kernel⟩
abbrev s_is_sized : Stmt := topS 11
abbrev N_is_sized : List Str := ["thing", "least", "most"]
theorem sc_is_sized : FnScope N_is_sized ["thing", "least", "most"] (defScope s_is_sized) := ⟨rfl, rfl, rfl, by decide +kernel, rfl, by decide +kernel, by decide +kernel⟩
abbrev s_is_row_floors : Stmt := topS 21
abbrev N_is_row_floors : List Str := ["thing", "sign"]
theorem sc_is_row_floors : FnScope N_is_row_floors ["thing"] (defScope s_is_row_floors) := ⟨rfl, rfl, rfl, by decide +kernel, rfl, by decide +kernel, by decide +kernel⟩
abbrev s_Floor_init : Stmt := match topS 23 with | .ClassDef _ _ _ b _ _ _ _ _ _ _ => b.getD 0 (.Pass ⟨0, 0, 0, 0⟩) | z => z
abbrev N_Floor_init : List Str := ["self", "rows", "index", "row"]
theorem sc_Floor_init : FnScope N_Floor_init ["self", "rows"] (defScope s_Floor_init) := ⟨rfl, rfl, rfl, by decide +kernel, rfl, by decide +kernel, by decide +kernel⟩
abbrev s__law_floor : Stmt := topS 86
abbrev N__law_floor : List Str := ["_law_hand_here", "_law_some"]
theorem sc__law_floor : FnScope N__law_floor ["_law_hand_here"] (defScope s__law_floor) := ⟨rfl, rfl, rfl, by decide +kernel, rfl, by decide +kernel, by decide +kernel⟩
abbrev s__law_match : Stmt := topS 87
abbrev N__law_match : List Str := ["_law_hand_here"]
theorem sc__law_match : FnScope N__law_match ["_law_hand_here"] (defScope s__law_match) := ⟨rfl, rfl, rfl, by decide +kernel, rfl, by decide +kernel, by decide +kernel⟩
abbrev s_homes : Stmt := topS 27
abbrev N_homes : List Str := ["floor"]
theorem sc_homes : FnScope N_homes ["floor"] (defScope s_homes) := ⟨rfl, rfl, rfl, by decide +kernel, rfl, by decide +kernel, by decide +kernel⟩
abbrev s__law_wide : Stmt := topS 91
abbrev N__law_wide : List Str := ["_law_number", "_law_found"]
theorem sc__law_wide : FnScope N__law_wide ["_law_number"] (defScope s__law_wide) := ⟨rfl, rfl, rfl, by decide +kernel, rfl, by decide +kernel, by decide +kernel⟩
abbrev s__law_entry_row : Stmt := topS 92
abbrev N__law_entry_row : List Str := ["_law_entry", "_law_found", "_law_one", "_law_other"]
theorem sc__law_entry_row : FnScope N__law_entry_row ["_law_entry"] (defScope s__law_entry_row) := ⟨rfl, rfl, rfl, by decide +kernel, rfl, by decide +kernel, by decide +kernel⟩
abbrev s__law_letter_row : Stmt := topS 93
abbrev N__law_letter_row : List Str := ["_law_match_here", "_law_letter", "_law_row", "_law_number", "_law_entry"]
theorem sc__law_letter_row : FnScope N__law_letter_row ["_law_match_here", "_law_letter"] (defScope s__law_letter_row) := ⟨rfl, rfl, rfl, by decide +kernel, rfl, by decide +kernel, by decide +kernel⟩
abbrev s__law_is : Stmt := topS 95
abbrev N__law_is : List Str := ["_law_told", "_law_due", "_law_one", "_law_two"]
theorem sc__law_is : FnScope N__law_is ["_law_told", "_law_due"] (defScope s__law_is) := ⟨rfl, rfl, rfl, by decide +kernel, rfl, by decide +kernel, by decide +kernel⟩
abbrev s_is_integer : Stmt := topS 8
abbrev N_is_integer : List Str := ["thing"]
theorem sc_is_integer : FnScope N_is_integer ["thing"] (defScope s_is_integer) := ⟨rfl, rfl, rfl, by decide +kernel, rfl, by decide +kernel, by decide +kernel⟩
abbrev s_is_within : Stmt := topS 9
abbrev N_is_within : List Str := ["thing", "least", "most"]
theorem sc_is_within : FnScope N_is_within ["thing", "least", "most"] (defScope s_is_within) := ⟨rfl, rfl, rfl, by decide +kernel, rfl, by decide +kernel, by decide +kernel⟩
abbrev s_check_within : Stmt := topS 13
abbrev N_check_within : List Str := ["thing", "least", "most"]
theorem sc_check_within : FnScope N_check_within ["thing", "least", "most"] (defScope s_check_within) := ⟨rfl, rfl, rfl, by decide +kernel, rfl, by decide +kernel, by decide +kernel⟩
abbrev s_check_match : Stmt := topS 76
abbrev N_check_match : List Str := ["match"]
theorem sc_check_match : FnScope N_check_match ["match"] (defScope s_check_match) := ⟨rfl, rfl, rfl, by decide +kernel, rfl, by decide +kernel, by decide +kernel⟩
abbrev s_is_below : Stmt := topS 10
abbrev N_is_below : List Str := ["thing", "many"]
theorem sc_is_below : FnScope N_is_below ["thing", "many"] (defScope s_is_below) := ⟨rfl, rfl, rfl, by decide +kernel, rfl, by decide +kernel, by decide +kernel⟩
abbrev s_is_row_rows : Stmt := topS 38
abbrev N_is_row_rows : List Str := ["thing", "item"]
theorem sc_is_row_rows : FnScope N_is_row_rows ["thing"] (defScope s_is_row_rows) := ⟨rfl, rfl, rfl, by decide +kernel, rfl, by decide +kernel, by decide +kernel⟩
abbrev s_marked : Stmt := topS 56
abbrev N_marked : List Str := ["mark", "row", "found", "byte"]
theorem sc_marked : FnScope N_marked ["mark", "row"] (defScope s_marked) := ⟨rfl, rfl, rfl, by decide +kernel, rfl, by decide +kernel, by decide +kernel⟩
abbrev s_mark_of : Stmt := topS 57
abbrev N_mark_of : List Str := ["row"]
theorem sc_mark_of : FnScope N_mark_of ["row"] (defScope s_mark_of) := ⟨rfl, rfl, rfl, by decide +kernel, rfl, by decide +kernel, by decide +kernel⟩
abbrev s_seal_of : Stmt := topS 68
abbrev N_seal_of : List Str := ["row", "left", "worth"]
theorem sc_seal_of : FnScope N_seal_of ["row"] (defScope s_seal_of) := ⟨rfl, rfl, rfl, by decide +kernel, rfl, by decide +kernel, by decide +kernel⟩
abbrev s_without_seal : Stmt := topS 69
abbrev N_without_seal : List Str := ["row", "found"]
theorem sc_without_seal : FnScope N_without_seal ["row"] (defScope s_without_seal) := ⟨rfl, rfl, rfl, by decide +kernel, rfl, by decide +kernel, by decide +kernel⟩
abbrev s_Reader_init : Stmt := match topS 43 with | .ClassDef _ _ _ b _ _ _ _ _ _ _ => b.getD 0 (.Pass ⟨0, 0, 0, 0⟩) | z => z
abbrev N_Reader_init : List Str := ["self", "row", "at"]
theorem sc_Reader_init : FnScope N_Reader_init ["self", "row", "at"] (defScope s_Reader_init) := ⟨rfl, rfl, rfl, by decide +kernel, rfl, by decide +kernel, by decide +kernel⟩
abbrev s_Reader_next_byte : Stmt := match topS 43 with | .ClassDef _ _ _ b _ _ _ _ _ _ _ => b.getD 4 (.Pass ⟨0, 0, 0, 0⟩) | z => z
abbrev N_Reader_next_byte : List Str := ["self"]
theorem sc_Reader_next_byte : FnScope N_Reader_next_byte ["self"] (defScope s_Reader_next_byte) := ⟨rfl, rfl, rfl, by decide +kernel, rfl, by decide +kernel, by decide +kernel⟩
abbrev s_Reader_finish : Stmt := match topS 43 with | .ClassDef _ _ _ b _ _ _ _ _ _ _ => b.getD 5 (.Pass ⟨0, 0, 0, 0⟩) | z => z
abbrev N_Reader_finish : List Str := ["self"]
theorem sc_Reader_finish : FnScope N_Reader_finish ["self"] (defScope s_Reader_finish) := ⟨rfl, rfl, rfl, by decide +kernel, rfl, by decide +kernel, by decide +kernel⟩
abbrev s_number_at : Stmt := topS 41
abbrev N_number_at : List Str := ["row", "at", "found", "worth", "place", "is_needless"]
theorem sc_number_at : FnScope N_number_at ["row", "at"] (defScope s_number_at) := ⟨rfl, rfl, rfl, by decide +kernel, rfl, by decide +kernel, by decide +kernel⟩
abbrev s_taken : Stmt := topS 42
abbrev N_taken : List Str := ["row", "at", "found"]
theorem sc_taken : FnScope N_taken ["row", "at"] (defScope s_taken) := ⟨rfl, rfl, rfl, by decide +kernel, rfl, by decide +kernel, by decide +kernel⟩
abbrev s_Reader_next_number : Stmt := match topS 43 with | .ClassDef _ _ _ b _ _ _ _ _ _ _ => b.getD 1 (.Pass ⟨0, 0, 0, 0⟩) | z => z
abbrev N_Reader_next_number : List Str := ["self", "found"]
theorem sc_Reader_next_number : FnScope N_Reader_next_number ["self"] (defScope s_Reader_next_number) := ⟨rfl, rfl, rfl, by decide +kernel, rfl, by decide +kernel, by decide +kernel⟩
abbrev s_taken_counts : Stmt := topS 77
abbrev N_taken_counts : List Str := ["many", "reader", "turn"]
theorem sc_taken_counts : FnScope N_taken_counts ["many", "reader"] (defScope s_taken_counts) := ⟨rfl, rfl, rfl, by decide +kernel, rfl, by decide +kernel, by decide +kernel⟩
abbrev s_taken_say : Stmt := topS 78
abbrev N_taken_say : List Str := ["many", "reader", "number", "heard", "done"]
theorem sc_taken_say : FnScope N_taken_say ["many", "reader"] (defScope s_taken_say) := ⟨rfl, rfl, rfl, by decide +kernel, rfl, by decide +kernel, by decide +kernel⟩
abbrev s_small_number : Stmt := topS 49
abbrev N_small_number : List Str := ["reader", "most", "found"]
theorem sc_small_number : FnScope N_small_number ["reader", "most"] (defScope s_small_number) := ⟨rfl, rfl, rfl, by decide +kernel, rfl, by decide +kernel, by decide +kernel⟩
abbrev s_taken_pair : Stmt := topS 50
abbrev N_taken_pair : List Str := ["reader"]
theorem sc_taken_pair : FnScope N_taken_pair ["reader"] (defScope s_taken_pair) := ⟨rfl, rfl, rfl, by decide +kernel, rfl, by decide +kernel, by decide +kernel⟩
abbrev s_taken_entry : Stmt := topS 51
abbrev N_taken_entry : List Str := ["reader", "word", "many", "turn"]
theorem sc_taken_entry : FnScope N_taken_entry ["reader"] (defScope s_taken_entry) := ⟨rfl, rfl, rfl, by decide +kernel, rfl, by decide +kernel, by decide +kernel⟩
abbrev s_taken_tell : Stmt := topS 79
abbrev N_taken_tell : List Str := ["many", "reader", "counts", "first", "told", "turn"]
theorem sc_taken_tell : FnScope N_taken_tell ["many", "reader"] (defScope s_taken_tell) := ⟨rfl, rfl, rfl, by decide +kernel, rfl, by decide +kernel, by decide +kernel⟩
abbrev s_taken_letter : Stmt := topS 80
abbrev N_taken_letter : List Str := ["many", "match", "row", "reader", "kind", "found"]
theorem sc_taken_letter : FnScope N_taken_letter ["many", "match", "row"] (defScope s_taken_letter) := ⟨rfl, rfl, rfl, by decide +kernel, rfl, by decide +kernel, by decide +kernel⟩
abbrev s_are_counts : Stmt := topS 71
abbrev N_are_counts : List Str := ["many", "thing", "item"]
theorem sc_are_counts : FnScope N_are_counts ["many", "thing"] (defScope s_are_counts) := ⟨rfl, rfl, rfl, by decide +kernel, rfl, by decide +kernel, by decide +kernel⟩
abbrev s_is_say : Stmt := topS 72
abbrev N_is_say : List Str := ["many", "letter"]
theorem sc_is_say : FnScope N_is_say ["many", "letter"] (defScope s_is_say) := ⟨rfl, rfl, rfl, by decide +kernel, rfl, by decide +kernel, by decide +kernel⟩
abbrev s_is_pair : Stmt := topS 12
abbrev N_is_pair : List Str := ["thing"]
theorem sc_is_pair : FnScope N_is_pair ["thing"] (defScope s_is_pair) := ⟨rfl, rfl, rfl, by decide +kernel, rfl, by decide +kernel, by decide +kernel⟩
abbrev s_are_pairs : Stmt := topS 47
abbrev N_are_pairs : List Str := ["thing", "one", "other", "item"]
theorem sc_are_pairs : FnScope N_are_pairs ["thing"] (defScope s_are_pairs) := ⟨rfl, rfl, rfl, by decide +kernel, rfl, by decide +kernel, by decide +kernel⟩
abbrev s_has_form : Stmt := topS 48
abbrev N_has_form : List Str := ["thing"]
theorem sc_has_form : FnScope N_has_form ["thing"] (defScope s_has_form) := ⟨rfl, rfl, rfl, by decide +kernel, rfl, by decide +kernel, by decide +kernel⟩
abbrev s_is_small_entry : Stmt := topS 73
abbrev N_is_small_entry : List Str := ["thing", "numbers", "pair"]
theorem sc_is_small_entry : FnScope N_is_small_entry ["thing"] (defScope s_is_small_entry) := ⟨rfl, rfl, rfl, by decide +kernel, rfl, by decide +kernel, by decide +kernel⟩
abbrev s_is_tell : Stmt := topS 74
abbrev N_is_tell : List Str := ["many", "letter", "entry"]
theorem sc_is_tell : FnScope N_is_tell ["many", "letter"] (defScope s_is_tell) := ⟨rfl, rfl, rfl, by decide +kernel, rfl, by decide +kernel, by decide +kernel⟩
abbrev s_is_letter : Stmt := topS 75
abbrev N_is_letter : List Str := ["many", "thing"]
theorem sc_is_letter : FnScope N_is_letter ["many", "thing"] (defScope s_is_letter) := ⟨rfl, rfl, rfl, by decide +kernel, rfl, by decide +kernel, by decide +kernel⟩
abbrev s_letter_of : Stmt := topS 81
abbrev N_letter_of : List Str := ["floor", "match", "thing", "row", "many", "found"]
theorem sc_letter_of : FnScope N_letter_of ["floor", "match", "thing"] (defScope s_letter_of) := ⟨rfl, rfl, rfl, by decide +kernel, rfl, by decide +kernel, by decide +kernel⟩
abbrev s_read_letter : Stmt := topS 82
abbrev N_read_letter : List Str := ["floor", "match", "thing"]
theorem sc_read_letter : FnScope N_read_letter ["floor", "match", "thing"] (defScope s_read_letter) := ⟨rfl, rfl, rfl, by decide +kernel, rfl, by decide +kernel, by decide +kernel⟩
abbrev s__law_some_letter : Stmt := topS 94
abbrev N__law_some_letter : List Str := ["_law_hand_here", "_law_floor_here", "_law_many", "_law_counts", "_law_first", "_law_entries", "_law_turn", "_law_robot", "_law_pairs", "_law_again"]
theorem sc__law_some_letter : FnScope N__law_some_letter ["_law_hand_here", "_law_floor_here"] (defScope s__law_some_letter) := ⟨rfl, rfl, rfl, by decide +kernel, rfl, by decide +kernel, by decide +kernel⟩
abbrev s__law_read_wide : Stmt := topS 97
abbrev N__law_read_wide : List Str := ["_law_row", "_law_at", "_law_found", "_law_power", "_law_place"]
theorem sc__law_read_wide : FnScope N__law_read_wide ["_law_row", "_law_at"] (defScope s__law_read_wide) := ⟨rfl, rfl, rfl, by decide +kernel, rfl, by decide +kernel, by decide +kernel⟩
abbrev s__law_read_wides : Stmt := topS 98
abbrev N__law_read_wides : List Str := ["_law_row", "_law_at", "_law_many", "_law_most", "_law_found", "_law_turn", "_law_number"]
theorem sc__law_read_wides : FnScope N__law_read_wides ["_law_row", "_law_at", "_law_many", "_law_most"] (defScope s__law_read_wides) := ⟨rfl, rfl, rfl, by decide +kernel, rfl, by decide +kernel, by decide +kernel⟩
abbrev s__law_read_say : Stmt := topS 99
abbrev N__law_read_say : List Str := ["_law_row", "_law_at", "_law_many", "_law_numbers"]
theorem sc__law_read_say : FnScope N__law_read_say ["_law_row", "_law_at", "_law_many"] (defScope s__law_read_say) := ⟨rfl, rfl, rfl, by decide +kernel, rfl, by decide +kernel, by decide +kernel⟩
abbrev s__law_read_entry : Stmt := topS 100
abbrev N__law_read_entry : List Str := ["_law_row", "_law_at", "_law_kind", "_law_many", "_law_numbers", "_law_turn"]
theorem sc__law_read_entry : FnScope N__law_read_entry ["_law_row", "_law_at"] (defScope s__law_read_entry) := ⟨rfl, rfl, rfl, by decide +kernel, rfl, by decide +kernel, by decide +kernel⟩
abbrev s__law_read_tell : Stmt := topS 101
abbrev N__law_read_tell : List Str := ["_law_row", "_law_at", "_law_many", "_law_numbers", "_law_entries", "_law_turn", "_law_entry"]
theorem sc__law_read_tell : FnScope N__law_read_tell ["_law_row", "_law_at", "_law_many"] (defScope s__law_read_tell) := ⟨rfl, rfl, rfl, by decide +kernel, rfl, by decide +kernel, by decide +kernel⟩
abbrev s__law_whole : Stmt := topS 96
abbrev N__law_whole : List Str := ["_law_thing", "_law_least", "_law_most"]
theorem sc__law_whole : FnScope N__law_whole ["_law_thing", "_law_least", "_law_most"] (defScope s__law_whole) := ⟨rfl, rfl, rfl, by decide +kernel, rfl, by decide +kernel, by decide +kernel⟩
abbrev s__law_read : Stmt := topS 102
abbrev N__law_read : List Str := ["_law_many", "_law_match_here", "_law_thing", "_law_row", "_law_told", "_law_at", "_law_byte"]
theorem sc__law_read : FnScope N__law_read ["_law_many", "_law_match_here", "_law_thing"] (defScope s__law_read) := ⟨rfl, rfl, rfl, by decide +kernel, rfl, by decide +kernel, by decide +kernel⟩
abbrev s_check_row : Stmt := topS 40
abbrev N_check_row : List Str := ["thing"]
theorem sc_check_row : FnScope N_check_row ["thing"] (defScope s_check_row) := ⟨rfl, rfl, rfl, by decide +kernel, rfl, by decide +kernel, by decide +kernel⟩
abbrev s_unsealed : Stmt := topS 70
abbrev N_unsealed : List Str := ["row"]
theorem sc_unsealed : FnScope N_unsealed ["row"] (defScope s_unsealed) := ⟨rfl, rfl, rfl, by decide +kernel, rfl, by decide +kernel, by decide +kernel⟩
abbrev s__law_deep : Stmt := topS 103
abbrev N__law_deep : List Str := ["_law_hand_here", "_law_found", "_law_turn"]
theorem sc__law_deep : FnScope N__law_deep ["_law_hand_here"] (defScope s__law_deep) := ⟨rfl, rfl, rfl, by decide +kernel, rfl, by decide +kernel, by decide +kernel⟩
abbrev s_law : Stmt := topS 104
abbrev N_law : List Str := ["_law_script", "_law_hand_here", "_law_turn", "_law_floor_here", "_law_match_here", "_law_many", "_law_row", "_law_is_right", "_law_thing", "_law_byte"]
theorem sc_law : FnScope N_law ["_law_script"] (defScope s_law) := ⟨rfl, rfl, rfl, by decide +kernel, rfl, by decide +kernel, by decide +kernel⟩
abbrev i_BadFloor : Stmt := match topS 3 with | .ClassDef _ _ _ b _ _ _ _ _ _ _ => b.getD 0 (.Pass ⟨0, 0, 0, 0⟩) | z => z
abbrev i_BadRow : Stmt := match topS 6 with | .ClassDef _ _ _ b _ _ _ _ _ _ _ => b.getD 0 (.Pass ⟨0, 0, 0, 0⟩) | z => z
/-- what the walk asks of the top -/
structure Txt (P : Program) (w : World) (K : Frg) (mg : Str → Option Value) (base : Heap) (c_BadFloor c_NoNumber c_BadRow c_NoRow c_Floor c_Reader : Addr) : Prop where
  n_len : mg "len" = none
  n_abs : mg "abs" = none
  n_int : mg "int" = none
  n_tuple : mg "tuple" = none
  n_list : mg "list" = none
  n_enumerate : mg "enumerate" = none
  g_WALL : Gstr mg "WALL" "#"
  n_sorted : mg "sorted" = none
  n_isinstance : mg "isinstance" = none
  n_all : mg "all" = none
  g_FREE : Gstr mg "FREE" "."
  g_HOME : Gstr mg "HOME" "H"
  g_STATION : Gstr mg "STATION" "S"
  g_MOST_ROWS : Gint mg "MOST_ROWS" (12)
  n_str : mg "str" = none
  fd_Floor_spots : FldC K c_Floor "spots"
  fd_Floor_stops : FldC K c_Floor "stops"
  fd_Floor_rests : FldC K c_Floor "rests"
  fd_Floor_ties : FldC K c_Floor "ties"
  fd_Floor_rows : FldC K c_Floor "rows"
  n_sum : mg "sum" = none
  g_MOST_HOMES : Gint mg "MOST_HOMES" (6)
  x_BadFloor : Exc1 P w K mg base "BadFloor" "part" c_BadFloor
  n_bool : mg "bool" = none
  n_zip : mg "zip" = none
  x_NoNumber : Exc0 K mg "NoNumber" c_NoNumber
  g_MOST_MATCH : Gint mg "MOST_MATCH" (4294967296)
  g_BYTE : Gint mg "BYTE" (256)
  g_MOST_BYTES : Gint mg "MOST_BYTES" (300000)
  g_MARK_STEP : Gint mg "MARK_STEP" (1000003)
  g_MARK_PRIME : Gint mg "MARK_PRIME" (2305843009213693951)
  g_MARK_BEGIN : Gint mg "MARK_BEGIN" (1)
  gt_SEAL_WORTHS : Gtup K mg "SEAL_WORTHS" [.int (1), .int (256), .int (65536), .int (16777216)]
  g_SEAL_BOUND : Gint mg "SEAL_BOUND" (4294967296)
  g_SEAL_BYTES : Gint mg "SEAL_BYTES" (4)
  fd_Reader_last : FldC K c_Reader "last"
  fd_Reader_at : FldC K c_Reader "at"
  fd_Reader_row : FldC K c_Reader "row"
  x_BadRow : Exc1 P w K mg base "BadRow" "place" c_BadRow
  n_range : mg "range" = none
  n_min : mg "min" = none
  g_MOST_FIGURES : Gint mg "MOST_FIGURES" (10)
  g_FIGURE : Gint mg "FIGURE" (128)
  g_WHOLE_BOUND : Gint mg "WHOLE_BOUND" (18446744073709551616)
  g_SAY : Gstr mg "SAY" "say"
  g_MOST_NUMBER : Gint mg "MOST_NUMBER" (4294967296)
  g_ORDERS : Gstr mg "ORDERS" "orders"
  g_MOST_ORDERS_AT_ONCE : Gint mg "MOST_ORDERS_AT_ONCE" (6)
  gt_WORDS : Gtup K mg "WORDS" [.str "orders", .str "out", .str "in"]
  g_TELL : Gstr mg "TELL" "tell"
  gt_KINDS : Gtup K mg "KINDS" [.str "say", .str "tell"]
  g_MOST_COUNT : Gint mg "MOST_COUNT" (100000)
  n_max : mg "max" = none
  g_MOST_TOLD : Gint mg "MOST_TOLD" (60)
  x_NoRow : Exc0 K mg "NoRow" c_NoRow
  m_BadFloor_BadRow : PySem.W.exmOne K (.ref c_BadFloor) (.ref c_BadRow) = some false
  m_NoNumber_BadRow : PySem.W.exmOne K (.ref c_NoNumber) (.ref c_BadRow) = some false
  m_BadRow_BadRow : PySem.W.exmOne K (.ref c_BadRow) (.ref c_BadRow) = some true
  m_NoRow_BadRow : PySem.W.exmOne K (.ref c_NoRow) (.ref c_BadRow) = some false
section
variable {P : Program} {w : World} {K : Frg} {mg : Str → Option Value} {base : Heap} {c_BadFloor c_NoNumber c_BadRow c_NoRow c_Floor c_Reader : Addr}
local macro_rules | `(tactic| walk_at "dn") => `(tactic| simp only [mSeq, mNext, mRet, mRetN, mIfS, mSet, mDrop, mBrk, mCnt, mVar, mC, mOp, mUn, mFn, mNil, mCons, mTup, mFrz, mRef, mLst, mTr, mAnd, mOr, mNot, mAndV, mOrV, mNotV, mIf, mCall, mSl, mPart, mNoPart, mMeth, mAsg, mgSub, mgName, mgCons, mgNil, mgTup, mAug, mFnL, mRaise, mExc0, mDict0, mSeqI, seqQ, mRng1, mRng2, mZip, mFor, mComp, mYes, mChain, mTry, mTst, wipeW, br_true, br_false,
  pyIsi, startW, List.map, List.length_cons, List.length_nil, List.replicate, List.getElem?_cons_succ, List.getElem?_cons_zero, List.cons_append, List.nil_append, List.set_cons_succ, List.set_cons_zero, truthW, Bool.not_true, Bool.not_false, if_true, if_false, ite_true, ite_false, true_and, and_true, reduceIte, reduceCtorEq, Nat.reduceAdd, Nat.reduceSub, Bool.false_eq_true, pyLt, pyLe, pyGt, pyGe, pyRel, pyAdd, pySub, pyMod, pyFdiv, pyPow, pyNeg, Dn.pyLen])
local macro_rules | `(tactic| walk_at "dh") => `(tactic| simp only [mSeq, mNext, mRet, mRetN, mIfS, mSet, mDrop, mBrk, mCnt, mVar, mC, mOp, mUn, mFn, mNil, mCons, mTup, mFrz, mRef, mLst, mTr, mAnd, mOr, mNot, mAndV, mOrV, mNotV, mIf, mCall, mSl, mPart, mNoPart, mMeth, mAsg, mgSub, mgName, mgCons, mgNil, mgTup, mAug, mFnL, mRaise, mExc0, mDict0, mSeqI, seqQ, mRng1, mRng2, mZip, mFor, mComp, mYes, mChain, mTry, mTst, wipeW, br_true, br_false,
  pyIsi, startW, List.map, List.length_cons, List.length_nil, List.replicate, List.getElem?_cons_succ, List.getElem?_cons_zero, List.cons_append, List.nil_append, List.set_cons_succ, List.set_cons_zero, truthW, Bool.not_true, Bool.not_false, if_true, if_false, ite_true, ite_false, true_and, and_true, reduceIte, reduceCtorEq, Nat.reduceAdd, Nat.reduceSub, Bool.false_eq_true, pyLt, pyLe, pyGt, pyGe, pyRel, pyAdd, pySub, pyMod, pyFdiv, pyPow, pyNeg, Dn.pyLen,
  Dn.pyIx, lsv, plv, sup_same, sup_sup, pySetItem, at_0, at_1, at_2, at_3, at_4, at_5, at_6, at_7, at_8, at_9, ix_1_0, ix_2_0, ix_2_1, ix_3_0, ix_3_1, ix_3_2, ix_4_0, ix_4_1, ix_4_2, ix_4_3, ix_5_0, ix_5_1, ix_5_2, ix_5_3, ix_5_4, ix_6_0, ix_6_1, ix_6_2, ix_6_3, ix_6_4, ix_6_5, Dn.pyInt, pyEq, pyMul, List.length_map])
local macro_rules | `(tactic| walk_at "dk") => `(tactic| simp only [mSeq, mNext, mRet, mRetN, mIfS, mSet, mDrop, mBrk, mCnt, mVar, mC, mOp, mUn, mFn, mNil, mCons, mTup, mFrz, mRef, mLst, mTr, mAnd, mOr, mNot, mAndV, mOrV, mNotV, mIf, mCall, mSl, mPart, mNoPart, mMeth, mAsg, mgSub, mgName, mgCons, mgNil, mgTup, mAug, mFnL, mRaise, mExc0, mDict0, mSeqI, seqQ, mRng1, mRng2, mZip, mFor, mComp, mYes, mChain, mTry, mTst, wipeW, br_true, br_false,
  pyIsi, startW, List.map, List.length_cons, List.length_nil, List.replicate, List.getElem?_cons_succ, List.getElem?_cons_zero, List.cons_append, List.nil_append, List.set_cons_succ, List.set_cons_zero, truthW, Bool.not_true, Bool.not_false, if_true, if_false, ite_true, ite_false, true_and, and_true, reduceIte, reduceCtorEq, Nat.reduceAdd, Nat.reduceSub, Bool.false_eq_true, pyLt, pyLe, pyGt, pyGe, pyRel, pyAdd, pySub, pyMod, pyFdiv, pyPow, pyNeg, Dn.pyLen,
  Dn.pyIx, lsv, plv, sup_same, sup_sup, pySetItem, tyN, kb_NoneType_int, kb_NoneType_bool, kb_NoneType_str, kb_NoneType_tuple, kb_NoneType_list, kb_NoneType_dict, kb_bool_int, kb_bool_bool, kb_bool_str, kb_bool_tuple, kb_bool_list, kb_bool_dict, kb_int_int, kb_int_bool, kb_int_str, kb_int_tuple, kb_int_list, kb_int_dict, kb_str_int, kb_str_bool, kb_str_str, kb_str_tuple, kb_str_list, kb_str_dict, kb_tuple_int, kb_tuple_bool, kb_tuple_str, kb_tuple_tuple, kb_tuple_list, kb_tuple_dict, kb_list_int, kb_list_bool, kb_list_str, kb_list_tuple, kb_list_list, kb_list_dict, kb_dict_int, kb_dict_bool, kb_dict_str, kb_dict_tuple, kb_dict_list, kb_dict_dict, isI, isB, isS, isT, isL, isNon, isBlW, pyIs, pyIsNot, pyNe, Bool.or_self, Bool.or_true, Bool.or_false, Bool.true_or, Bool.false_or, Bool.and_self, Bool.and_true, Bool.and_false, decide_true, decide_false, at_0, at_1, at_2, at_3, at_4, at_5, at_6, at_7, at_8, at_9, ix_1_0, ix_2_0, ix_2_1, ix_3_0, ix_3_1, ix_3_2, ix_4_0, ix_4_1, ix_4_2, ix_4_3, ix_5_0, ix_5_1, ix_5_2, ix_5_3, ix_5_4, ix_6_0, ix_6_1, ix_6_2, ix_6_3, ix_6_4, ix_6_5, Dn.pyInt, pyEq, pyMul, List.length_map])
local macro_rules | `(tactic| walk_at "nx") => `(tactic| (conv => whnf))
local macro_rules | `(tactic| walk_at "ny") => `(tactic| ((conv => whnf); repeat (refine And.intro (by first | exact Nat.le_of_ble_eq_true rfl | exact trivial | exact rfl | decide | exact .inl (by decide) | exact .inr (.inl (by decide)) | exact ⟨by decide, by decide⟩ | omega) ?_; conv => whnf)))
theorem pyEq_of {x y : Dt} {S : Store} {Q : Dt → Store → Prop} (h1 : fl 60 x = true) (h2 : fl 60 y = true) (h : Q (.bl (eqD x y)) S) : pyEq x y S Q := by
  unfold pyEq
  split
  · rename_i i j; rw [show eqD (.int i) (.int j) = decide (i = j) from rfl] at h; exact h
  · rename_i i j; rw [show eqD (.bl i) (.bl j) = (i == j) from rfl] at h; exact h
  · rename_i i j; rw [show eqD (.str i) (.str j) = decide (i = j) from rfl] at h; exact h
  · exact ⟨h1, h2, h⟩
theorem pyNe_of {x y : Dt} {S : Store} {Q : Dt → Store → Prop} (h1 : fl 60 x = true) (h2 : fl 60 y = true) (h : Q (.bl (!eqD x y)) S) : pyNe x y S Q := pyEq_of h1 h2 h
theorem br_t {c : Prop} [Decidable c] {p q : Prop} (hc : c) (h : p) : br (decide c) p q := by rw [decide_eq_true hc]; exact h
theorem br_f {c : Prop} [Decidable c] {p q : Prop} (hc : ¬ c) (h : q) : br (decide c) p q := by rw [decide_eq_false hc]; exact h
theorem br_c {c : Prop} [Decidable c] {p q : Prop} (h1 : c → p) (h2 : ¬ c → q) : br (decide c) p q := by
  by_cases hc : c
  · exact br_t hc (h1 hc)
  · exact br_f hc (h2 hc)
local macro_rules | `(tactic| walk_at "side") => `(tactic| first | exact Nat.le_of_ble_eq_true rfl | exact trivial | exact rfl | decide | exact .inl (by decide) | exact .inr (.inl (by decide)) | exact ⟨by decide, by decide⟩ | omega | assumption)
local macro_rules | `(tactic| walk_at "go") => `(tactic| ((conv => whnf); repeat (first
  | (refine And.intro (by walk_at "side") ?_; (conv => whnf))
  | (refine br_t (by first | omega | assumption) ?_; (conv => whnf))
  | (refine br_f (by first | omega | assumption) ?_; (conv => whnf))
  | (rw [sup_same]; (conv => whnf)))))
def HandL (hd : List Dt) : Prop := ∃ (ns : List Int) (p b s c : Int), hd = [.lst (ns.map Dt.int), .int p, .int b, .int s, .int c] ∧ 0 ≤ p
/-- the row of a number -/
def figF : Nat → Int → List Int
  | 0, n => [n]
  | k + 1, n => if n < 128 then [n] else (n % 128 + 128) :: figF k (n / 128)
theorem figF_small {k : Nat} {n : Int} (h : n < 128) : figF k n = [n] := by
  cases k with
  | zero => rfl
  | succ k => unfold figF; rw [if_pos h]
theorem figF_big {k : Nat} {n : Int} (h : ¬ n < 128) : figF (k + 1) n = (n % 128 + 128) :: figF k (n / 128) := by
  rw [figF, if_neg h]
theorem figF_byte : ∀ {k : Nat} {n : Int}, 0 ≤ n → n < 128 ^ (k + 1) → ∀ b ∈ figF k n, 0 ≤ b ∧ b ≤ 255
  | 0, n, h0, h1, b, hb => by
    rw [figF, List.mem_singleton] at hb
    have h1 : n < 128 := h1
    omega
  | k + 1, n, h0, h1, b, hb => by
    rw [figF] at hb
    by_cases h : n < 128
    · rw [if_pos h, List.mem_singleton] at hb
      omega
    · rw [if_neg h, List.mem_cons] at hb
      rcases hb with rfl | hb
      · omega
      · exact figF_byte (by omega) (Int.ediv_lt_of_lt_mul (by decide) (by rw [Int.pow_succ] at h1; exact h1)) b hb
theorem figF_len : ∀ {k : Nat} {n : Int}, (figF k n).length ≤ k + 1
  | 0, n => Nat.le_refl _
  | k + 1, n => by
    rw [figF]
    split
    · exact Nat.le_add_left _ _
    · rw [List.length_cons]
      exact Nat.succ_le_succ figF_len
def foldI (n : Int) : Int := if 0 ≤ n then 2 * n else -2 * n - 1
/-- the number that a row begins with: what is left, how many more, found, worth, how many -/
def numG : List Int → Nat → Int → Int → Nat → Option (Int × Nat)
  | _, 0, _, _, _ => none
  | [], _ + 1, _, _, _ => none
  | b :: r, f + 1, v, p, c => if b < 128 then (if (b = 0 ∧ 0 < c) ∨ 18446744073709551616 ≤ v + b % 128 * p then none else some (v + b % 128 * p, c + 1)) else numG r f (v + b % 128 * p) (p * 128) (c + 1)
def numAt (bs : List Int) (a : Nat) : Option (Int × Nat) := numG (bs.drop a) 10 0 1 0
theorem numG_nil {f : Nat} {v p : Int} {c : Nat} : numG [] f v p c = none := by
  cases f <;> rfl
theorem numG_zero {r : List Int} {v p : Int} {c : Nat} : numG r 0 v p c = none := by
  cases r <;> rfl
theorem numG_more {b : Int} {r : List Int} {f : Nat} {v p : Int} {c : Nat} (h : ¬ b < 128) : numG (b :: r) (f + 1) v p c = numG r f (v + b % 128 * p) (p * 128) (c + 1) := by
  rw [numG, if_neg h]
theorem numG_last {b : Int} {r : List Int} {f : Nat} {v p : Int} {c : Nat} (h : b < 128) : numG (b :: r) (f + 1) v p c = if (b = 0 ∧ 0 < c) ∨ 18446744073709551616 ≤ v + b % 128 * p then none else some (v + b % 128 * p, c + 1) := by
  rw [numG, if_pos h]
def optD (a : Nat) : Option (Int × Nat) → Dt
  | none => .non
  | some (n, c) => .tup [.int n, .int ((a : Int) + (c : Int))]
def unfoldI (n : Int) : Int := if n % 2 = 0 then n / 2 else -(n + 1) / 2
inductive Rd where
  | noRow | noPlace | bad (a : Int) | ok (n e : Int)
def rdOf (k : Int) (w a : Dt) : Rd :=
  if rowW w = true then match a with
    | .int i => if 0 ≤ i ∧ i ≤ ((bytesOf w).length : Int) then match numAt (bytesOf w) i.toNat with
        | none => .bad i
        | some (n, c) => if k = 0 then .ok n (i + (c : Int)) else if -4611686018427387904 ≤ unfoldI n ∧ unfoldI n ≤ 4611686018427387904 then .ok (unfoldI n) (i + (c : Int)) else .bad i
      else .noPlace
    | _ => .noPlace
  else .noRow
def toldR : Rd → Dt
  | .noRow => .tup [.str "NoRow"]
  | .noPlace => .tup [.str "NoPlace"]
  | .bad i => .tup [.str "BadRow", .int i]
  | .ok n e => .tup [.str "told", .tup [.int n, .int e]]
def rdEnd (cR cP cB : Addr) (S : Store) (Q : Dt → Store → Prop) (Ex : Exn → Store → Prop) : Rd → Prop
  | .noRow => Ex ⟨.ref cR, none⟩ S
  | .noPlace => Ex ⟨.ref cP, none⟩ S
  | .bad i => Ex ⟨.ref cB, some (["place"], [.int i])⟩ S
  | .ok n e => Q (.tup [.int n, .int e]) S
theorem inW_not {w : Dt} {lo hi : Int} (h : inW w lo hi = false) (i : Int) (e : w = .int i) : ¬ (lo ≤ i ∧ i ≤ hi) := fun z => by
  subst e
  rw [inW_int z.1 z.2] at h
  cases h
theorem rdOf_noRow {k : Int} {w a : Dt} (h : rowW w = false) : rdOf k w a = .noRow := by
  unfold rdOf
  rw [h]
  rfl
theorem rdOf_noPlace {k : Int} {w a : Dt} (h : rowW w = true) (h2 : inW a 0 ((bytesOf w).length : Int) = false) : rdOf k w a = .noPlace := by
  unfold rdOf
  rw [if_pos h]
  cases a with
  | int i => exact if_neg (inW_not h2 i rfl)
  | _ => rfl
theorem rdOf_at {k : Int} {w : Dt} {a : Nat} (h : rowW w = true) (h2 : a ≤ (bytesOf w).length) : rdOf k w (.int a) = match numAt (bytesOf w) a with
        | none => .bad a
        | some (n, c) => if k = 0 then .ok n ((a : Int) + (c : Int)) else if -4611686018427387904 ≤ unfoldI n ∧ unfoldI n ≤ 4611686018427387904 then .ok (unfoldI n) ((a : Int) + (c : Int)) else .bad a := by
  unfold rdOf
  rw [if_pos h]
  show (if 0 ≤ (a : Int) ∧ (a : Int) ≤ ((bytesOf w).length : Int) then _ else _) = _
  rw [if_pos ⟨by omega, by omega⟩]
  rfl
theorem numG_fig : ∀ (k : Nat) (m v p : Int) (c : Nat) (post : List Int), 0 ≤ m → m < 128 ^ (k + 1) → v + m * p < 18446744073709551616 → (c = 0 ∨ 0 < m) → numG (figF (k + 1) m ++ post) (k + 1) v p c = some (v + m * p, c + (figF (k + 1) m).length)
  | k, m, v, p, c, post, h0, h1, h2, h3 => by
    by_cases h : m < 128
    · rw [figF_small h]
      show numG (m :: post) (k + 1) v p c = _
      have e : m % 128 = m := Int.emod_eq_of_lt h0 h
      rw [numG_last h, e, if_neg (fun z => by omega)]
      rfl
    · cases k with
      | zero => exact absurd (show m < 128 from h1) h
      | succ k =>
        have e : v + m % 128 * p + m / 128 * (p * 128) = v + m * p := by
          have q := Int.mul_ediv_add_emod m 128
          have q2 : (128 * (m / 128) + m % 128) * p = m * p := by rw [q]
          rw [Int.add_mul] at q2
          rw [← q2, Int.mul_comm p 128, ← Int.mul_assoc, Int.mul_comm (m / 128) 128]
          omega
        rw [figF_big h, List.cons_append, numG_more (show ¬ m % 128 + 128 < 128 by omega), show (m % 128 + 128) % 128 = m % 128 by omega,
          numG_fig k (m / 128) (v + m % 128 * p) (p * 128) (c + 1) post (by omega) (Int.ediv_lt_of_lt_mul (by decide) (by rw [Int.pow_succ] at h1; exact h1)) (by rw [e]; exact h2) (.inr (by omega)), e, List.length_cons]
        congr 2
        omega
theorem unfold_fold (n : Int) : unfoldI (foldI n) = n := by
  unfold unfoldI foldI
  by_cases h : 0 ≤ n
  · rw [if_pos h, if_pos (by omega)]
    omega
  · rw [if_neg h, if_neg (by omega)]
    omega
theorem numAt_fig {m : Int} {pre post : List Int} (h0 : 0 ≤ m) (h1 : m < 18446744073709551616) : numAt (pre ++ figF 10 m ++ post) pre.length = some (m, (figF 10 m).length) := by
  unfold numAt
  rw [List.append_assoc, List.drop_left, numG_fig 9 m 0 1 0 post h0 (by
    have : (128 : Int) ^ (9 + 1) = 1180591620717411303424 := by decide +kernel
    rw [this]
    omega) (by omega) (.inl rfl), Int.mul_one, Int.zero_add, Nat.zero_add]
theorem told_nice (r : Rd) : pl (toldR r) = true ∧ nice (toldR r) = true ∧ dep (toldR r) < 4 := by
  cases r <;> exact ⟨rfl, rfl, Nat.le_of_ble_eq_true rfl⟩
--! var floor Floor
--! var _law_floor Floor
--! var _law_floor_here Floor
def floorD (c : Addr) (R : Rws) : Dt := .ins c ["rows", "spots", "ties", "rests", "stops"] [.tup (R.map rowS), .tup ((spotsF R).map spD), .tup ((tiesF (spotsF R)).map fun l => .tup (lotW l)), .tup (lotW (ofF R 72)), .tup (lotW (ofF R 83))]
theorem inW_nat {w : Dt} {n : Nat} (h : inW w 0 ((n : Int) - 1) = true) : ∃ c : Nat, w = .int (c : Nat) ∧ c < n := by
  cases w with
  | int i =>
    unfold inW at h
    rw [Bool.and_eq_true, decide_eq_true_eq, decide_eq_true_eq] at h
    exact ⟨i.toNat, by congr 1; omega, by omega⟩
  | _ => cases h
--! var reader Reader
--! fields Reader row at last
theorem sup_id {S : Store} {a : Addr} {o : Ob} (h : S a = some o) : S = sup S a o := by
  funext b
  unfold sup
  by_cases e : b = a
  · rw [if_pos e, e, h]
  · rw [if_neg e]
theorem sub_up {S S' : Store} {a : Addr} {o : Ob} (e : Sub S S') (h : S a = none) : Sub S (sup S' a o) := fun x u q => by
  rw [sup_ne (fun z => by rw [z, h] at q; cases q)]
  exact e x u q
local macro_rules | `(tactic| walk_at "sub") => `(tactic| repeat (first | exact Sub.refl | assumption | refine sub_up ?_ (by assumption)))
def rdO (c : Addr) (bs : List Int) (p q : Nat) : Ob := .ins c ["row", "at", "last"] [.tup (bs.map Dt.int), .int (p : Nat), .int (q : Nat)]
def RowOk (bs : List Int) : Prop := bs.length ≤ 300000 ∧ ∀ b ∈ bs, 0 ≤ b ∧ b ≤ 255
theorem numG_in : ∀ {f : Nat} {r : List Int} {v p : Int} {c : Nat} {n : Int} {c1 : Nat}, (∀ b ∈ r, 0 ≤ b ∧ b ≤ 255) → 0 ≤ v → 0 ≤ p → numG r f v p c = some (n, c1) → 0 ≤ n ∧ n < 18446744073709551616 ∧ c < c1 ∧ c1 ≤ c + f ∧ c1 ≤ c + r.length
  | 0, r, v, p, c, n, c1, _, _, _, h => by rw [numG_zero] at h; cases h
  | f + 1, [], v, p, c, n, c1, _, _, _, h => by rw [numG_nil] at h; cases h
  | f + 1, b :: r, v, p, c, n, c1, hb, hv, hp, h => by
    have hm : 0 ≤ b % 128 * p := Int.mul_nonneg (Int.emod_nonneg _ (by decide)) hp
    rw [List.length_cons]
    by_cases hc : b < 128
    · rw [numG_last hc] at h
      split at h
      · cases h
      · rename_i hn
        injection h with h
        injection h with e1 e2
        subst e1 e2
        exact ⟨by omega, by omega, by omega, by omega, by omega⟩
    · rw [numG_more hc] at h
      obtain ⟨h1, h2, h3, h4, h5⟩ := numG_in (fun x hx => hb x (List.mem_cons_of_mem _ hx)) (by omega) (by omega) h
      exact ⟨h1, h2, by omega, by omega, by omega⟩
theorem numAt_in {bs : List Int} {a : Nat} {n : Int} {c : Nat} (hb : ∀ b ∈ bs, 0 ≤ b ∧ b ≤ 255) (h : numAt bs a = some (n, c)) : 0 ≤ n ∧ n < 18446744073709551616 ∧ 1 ≤ c ∧ c ≤ 10 ∧ a + c ≤ bs.length := by
  unfold numAt at h
  obtain ⟨h1, h2, h3, h4, h5⟩ := numG_in (fun b hx => hb b (List.mem_of_mem_drop hx)) (by decide) (by decide) h
  rw [List.length_drop] at h5
  exact ⟨h1, h2, by omega, by omega, by omega⟩
/-- an entry by its form -/
inductive En where
  | ord (ps : List (Nat × Nat)) | out (n : Nat) | inn (n : Nat)
def prD (p : Nat × Nat) : Dt := .tup [.int (p.1 : Nat), .int (p.2 : Nat)]
def enD : En → Dt
  | .ord ps => .tup [.str "orders", .tup (ps.map prD)]
  | .out n => .tup [.str "out", .int (n : Nat)]
  | .inn n => .tup [.str "in", .int (n : Nat)]
def enR : En → List Int
  | .ord ps => 1 :: (figF 10 (ps.length : Nat) ++ ps.flatMap fun p => figF 10 (p.1 : Nat) ++ figF 10 (p.2 : Nat))
  | .out n => 2 :: figF 10 (n : Nat)
  | .inn n => 3 :: figF 10 (n : Nat)
def prOf : Dt → Option (Nat × Nat)
  | .tup [.int a, .int b] => if (0 ≤ a ∧ a < 4294967296) ∧ (0 ≤ b ∧ b < 4294967296) then some (a.toNat, b.toNat) else none
  | _ => none
def prsOf : List Dt → Option (List (Nat × Nat))
  | [] => some []
  | w :: ws => match prOf w, prsOf ws with
    | some p, some ps => some (p :: ps)
    | _, _ => none
def enOf : Dt → Option En
  | .tup [.str z, x] => if z = "orders" then (match x with
      | .tup ps => if 1 ≤ ps.length ∧ ps.length ≤ 6 then (prsOf ps).map .ord else none
      | _ => none)
    else if z = "out" then (if inW x 0 4294967295 = true then some (.out (match x with | .int i => i.toNat | _ => 0)) else none)
    else if z = "in" then (if inW x 0 4294967295 = true then some (.inn (match x with | .int i => i.toNat | _ => 0)) else none)
    else none
  | _ => none
def EnOk : En → Prop
  | .ord ps => 1 ≤ ps.length ∧ ps.length ≤ 6 ∧ ∀ p ∈ ps, p.1 < 4294967296 ∧ p.2 < 4294967296
  | .out n => n < 4294967296
  | .inn n => n < 4294967296
theorem prOf_some {w : Dt} {p : Nat × Nat} (h : prOf w = some p) : w = prD p ∧ p.1 < 4294967296 ∧ p.2 < 4294967296 := by
  unfold prOf at h
  split at h
  · split at h
    · rename_i a b hz
      cases h
      refine ⟨?_, by dsimp only; omega, by dsimp only; omega⟩
      unfold prD
      dsimp only
      rw [Int.toNat_of_nonneg hz.1.1, Int.toNat_of_nonneg hz.2.1]
    · cases h
  · cases h
theorem prsOf_some : ∀ {ws : List Dt} {ps : List (Nat × Nat)}, prsOf ws = some ps → ws = ps.map prD ∧ ∀ p ∈ ps, p.1 < 4294967296 ∧ p.2 < 4294967296
  | [], ps, h => by
    cases h
    exact ⟨rfl, fun p hp => nomatch hp⟩
  | w :: ws, ps, h => by
    unfold prsOf at h
    split at h
    · rename_i q qs e1 e2
      cases h
      obtain ⟨rfl, h1⟩ := prOf_some e1
      obtain ⟨rfl, h2⟩ := prsOf_some e2
      refine ⟨rfl, fun p hp => ?_⟩
      rcases List.mem_cons.mp hp with rfl | hp
      · exact h1
      · exact h2 p hp
    · cases h
theorem enOf_some {w : Dt} {e : En} (h : enOf w = some e) : w = enD e ∧ EnOk e := by
  unfold enOf at h
  split at h
  · rename_i z x
    split at h
    · rename_i hz
      subst hz
      split at h
      · rename_i ps
        split at h
        · rename_i hl
          rw [Option.map_eq_some_iff] at h
          obtain ⟨qs, e1, rfl⟩ := h
          obtain ⟨rfl, h2⟩ := prsOf_some e1
          rw [List.length_map] at hl
          exact ⟨rfl, hl.1, hl.2, h2⟩
        · cases h
      · cases h
    · split at h
      · rename_i hz
        subst hz
        split at h
        · rename_i hw
          obtain ⟨i, rfl, h0, h1⟩ := inW_of hw
          cases h
          refine ⟨?_, by show i.toNat < _; omega⟩
          unfold enD
          dsimp only
          rw [Int.toNat_of_nonneg h0]
        · cases h
      · split at h
        · rename_i hz
          subst hz
          split at h
          · rename_i hw
            obtain ⟨i, rfl, h0, h1⟩ := inW_of hw
            cases h
            refine ⟨?_, by show i.toNat < _; omega⟩
            unfold enD
            dsimp only
            rw [Int.toNat_of_nonneg h0]
          · cases h
        · cases h
  · cases h
theorem prOf_pr {p : Nat × Nat} (h1 : p.1 < 4294967296) (h2 : p.2 < 4294967296) : prOf (prD p) = some p := by
  show (if (0 ≤ ((p.1 : Nat) : Int) ∧ ((p.1 : Nat) : Int) < 4294967296) ∧ (0 ≤ ((p.2 : Nat) : Int) ∧ ((p.2 : Nat) : Int) < 4294967296) then some (((p.1 : Nat) : Int).toNat, ((p.2 : Nat) : Int).toNat) else none) = some p
  rw [if_pos ⟨⟨by omega, by omega⟩, by omega, by omega⟩, Int.toNat_natCast, Int.toNat_natCast]
theorem prsOf_pr : ∀ {ps : List (Nat × Nat)}, (∀ p ∈ ps, p.1 < 4294967296 ∧ p.2 < 4294967296) → prsOf (ps.map prD) = some ps
  | [], _ => rfl
  | p :: ps, h => by
    have h1 := h p List.mem_cons_self
    rw [List.map_cons, prsOf, prOf_pr h1.1 h1.2, prsOf_pr fun q hq => h q (List.mem_cons_of_mem _ hq)]
theorem enOf_en {e : En} (h : EnOk e) : enOf (enD e) = some e := by
  cases e with
  | ord ps =>
    obtain ⟨h1, h2, h3⟩ := h
    show (if 1 ≤ (ps.map prD).length ∧ (ps.map prD).length ≤ 6 then (prsOf (ps.map prD)).map En.ord else none) = _
    rw [List.length_map, if_pos ⟨h1, h2⟩, prsOf_pr h3]
    rfl
  | out n =>
    have h : n < 4294967296 := h
    show (if inW (.int (n : Nat)) 0 4294967295 = true then some (En.out ((n : Int)).toNat) else none) = _
    rw [if_pos (inW_int (by omega) (by omega)), Int.toNat_natCast]
  | inn n =>
    have h : n < 4294967296 := h
    show (if inW (.int (n : Nat)) 0 4294967295 = true then some (En.inn ((n : Int)).toNat) else none) = _
    rw [if_pos (inW_int (by omega) (by omega)), Int.toNat_natCast]
theorem pl_pr (p : Nat × Nat) : pl (prD p) = true := pl_pair rfl rfl
theorem pl_en (e : En) : pl (enD e) = true := by
  cases e with
  | ord ps => exact pl_pair rfl (pl_tup_of fun w hw => by obtain ⟨p, _, rfl⟩ := List.mem_map.mp hw; exact pl_pr p)
  | out n => exact pl_pair rfl rfl
  | inn n => exact pl_pair rfl rfl

def mkF (m : Int) (bs : List Int) : Int := bs.foldl (fun f b => (f * 1000003 + b + 1) % 2305843009213693951) m
theorem mkF_take {m b : Int} {bs : List Int} {i : Nat} (h : bs[i]? = some b) : (mkF m (bs.take i) * 1000003 + b + 1) % 2305843009213693951 = mkF m (bs.take (i + 1)) := by
  rw [List.take_add_one, h]
  unfold mkF
  rw [List.foldl_append]
  rfl
def sealF (bs : List Int) : List Int := [1, 256, 65536, 16777216].map fun w => mkF 1 bs % 4294967296 / w % 256
def slF (bs : List Int) : List Int := bs ++ sealF bs
theorem sealF_byte {bs : List Int} : ∀ b ∈ sealF bs, 0 ≤ b ∧ b ≤ 255 := fun b h => by
  obtain ⟨w, _, rfl⟩ := List.mem_map.mp h
  omega
theorem sealF_len {bs : List Int} : (sealF bs).length = 4 := rfl
def unslF (bs : List Int) : Option (List Int) := if bs.length < 4 then none else if sealF (bs.take (bs.length - 4)) = bs.drop (bs.length - 4) then some (bs.take (bs.length - 4)) else none
theorem unslF_sl (bs : List Int) : unslF (slF bs) = some bs := by
  unfold unslF slF
  have hl : (bs ++ sealF bs).length - 4 = bs.length := by rw [List.length_append, sealF_len]; omega
  rw [if_neg (by rw [List.length_append, sealF_len]; omega), hl, List.take_left, List.drop_left, if_pos rfl]
/-- what a letter says -/
inductive Lt where
  | say (n h d : Nat) (cs : List Nat) | tell (cs : List Nat) (f : Nat) (es : List En)
def ltD : Lt → Dt
  | .say n h d cs => .tup [.str "say", .int (n : Nat), .int (h : Nat), .int (d : Nat), .tup (lotW cs)]
  | .tell cs f es => .tup [.str "tell", .tup (lotW cs), .int (f : Nat), .tup (es.map enD)]
def wh (ns : List Nat) : List Int := ns.flatMap fun n => figF 10 (n : Nat)
def ltB (m : Nat) : Lt → List Int
  | .say n h d cs => 1 :: (figF 10 (m : Nat) ++ wh [n, h, d] ++ wh cs)
  | .tell cs f es => 2 :: (figF 10 (m : Nat) ++ wh cs ++ wh [f, es.length] ++ es.flatMap enR)
def ltR (m : Nat) (l : Lt) : List Int := slF (ltB m l)
def EnSm : En → Prop
  | .ord ps => 1 ≤ ps.length ∧ ps.length ≤ 6 ∧ ∀ p ∈ ps, p.1 < 100000 ∧ p.2 < 100000
  | .out n => n < 100000
  | .inn n => n < 100000
theorem EnSm.ok {e : En} (h : EnSm e) : EnOk e := by
  cases e with
  | ord ps => exact ⟨h.1, h.2.1, fun p hp => ⟨Nat.lt_trans (h.2.2 p hp).1 (by decide), Nat.lt_trans (h.2.2 p hp).2 (by decide)⟩⟩
  | out n => exact Nat.lt_trans (show n < 100000 from h) (by decide)
  | inn n => exact Nat.lt_trans (show n < 100000 from h) (by decide)
def LtOk (many : Nat) : Lt → Prop
  | .say n h d cs => n < many ∧ h < 100000 ∧ d < 100000 ∧ cs.length = many ∧ (∀ c ∈ cs, c < 100000) ∧ cs[n]? = some d
  | .tell cs f es => cs.length = many ∧ (∀ c ∈ cs, c < 100000) ∧ f < 100000 ∧ es.length ≤ 60 ∧ ∀ e ∈ es, EnSm e
def ctsW (many : Nat) : Dt → Bool
  | .tup xs => decide (xs.length = many) && xs.all (inW · 0 99999)
  | _ => false
def smW (w : Dt) : Bool := match enOf w with
  | some (.ord ps) => ps.all fun p => decide (p.1 < 100000 ∧ p.2 < 100000)
  | some (.out n) => decide (n < 100000)
  | some (.inn n) => decide (n < 100000)
  | none => false
def sayE (a d c : Dt) : Bool := match a, d with
    | .int i, .tup xs => (match xs[i.toNat]? with | some x => eqD x c | none => false)
    | _, _ => false
def sayW (many : Nat) : List Dt → Bool
  | [a, b, c, d] => inW a 0 ((many : Int) - 1) && (inW b 0 99999 && (inW c 0 99999 && (ctsW many d && sayE a d c)))
  | _ => false
def telW (many : Nat) : List Dt → Bool
  | [a, b, .tup es] => ctsW many a && (inW b 0 99999 && (decide (es.length ≤ 60) && es.all smW))
  | _ => false
def isLt (many : Nat) : Dt → Bool
  | .tup (.str z :: r) => if z = "say" then sayW many r else if z = "tell" then telW many r else false
  | _ => false
theorem smW_iff {w : Dt} : smW w = true ↔ ∃ e, w = enD e ∧ EnSm e := by
  unfold smW
  constructor
  · intro h
    split at h
    · rename_i ps e
      obtain ⟨rfl, ok⟩ := enOf_some e
      refine ⟨_, rfl, ok.1, ok.2.1, fun p hp => ?_⟩
      rw [List.all_eq_true] at h
      exact of_decide_eq_true (h p hp)
    · rename_i n e
      obtain ⟨rfl, ok⟩ := enOf_some e
      exact ⟨_, rfl, show n < 100000 from of_decide_eq_true h⟩
    · rename_i n e
      obtain ⟨rfl, ok⟩ := enOf_some e
      exact ⟨_, rfl, show n < 100000 from of_decide_eq_true h⟩
    · cases h
  · rintro ⟨e, rfl, ok⟩
    rw [enOf_en ok.ok]
    cases e with
    | ord ps => exact List.all_eq_true.mpr fun p hp => decide_eq_true (ok.2.2 p hp)
    | out n =>
      have ok : n < 100000 := ok
      exact decide_eq_true ok
    | inn n =>
      have ok : n < 100000 := ok
      exact decide_eq_true ok
theorem nats_of {M : Nat} : ∀ {xs : List Dt}, (xs.all fun x => inW x 0 (M : Nat)) = true → ∃ cs : List Nat, xs = lotW cs ∧ ∀ c ∈ cs, c ≤ M
  | [], _ => ⟨[], rfl, fun c h => nomatch h⟩
  | x :: xs, h => by
    rw [List.all_cons, Bool.and_eq_true] at h
    obtain ⟨i, rfl, h0, h1⟩ := inW_of h.1
    obtain ⟨cs, rfl, h2⟩ := nats_of h.2
    refine ⟨i.toNat :: cs, by show _ = Dt.int ((i.toNat : Nat) : Int) :: _; rw [Int.toNat_of_nonneg h0]; rfl, fun c hc => ?_⟩
    rcases List.mem_cons.mp hc with rfl | hc
    · omega
    · exact h2 c hc
theorem cts_iff {many : Nat} {w : Dt} : ctsW many w = true ↔ ∃ cs : List Nat, w = .tup (lotW cs) ∧ cs.length = many ∧ ∀ c ∈ cs, c < 100000 := by
  constructor
  · intro h
    cases w with
    | tup xs =>
      have h : (decide (xs.length = many) && xs.all (inW · 0 99999)) = true := h
      rw [Bool.and_eq_true, decide_eq_true_iff] at h
      obtain ⟨cs, rfl, h2⟩ := nats_of (M := 99999) h.2
      exact ⟨cs, rfl, by rw [← h.1]; exact (List.length_map ..).symm, fun c hc => Nat.lt_succ_of_le (h2 c hc)⟩
    | _ => cases h
  · rintro ⟨cs, rfl, hl, hc⟩
    show (decide ((lotW cs).length = many) && (lotW cs).all (inW · 0 99999)) = true
    rw [show (lotW cs).length = cs.length from List.length_map .., decide_eq_true hl, Bool.true_and, List.all_eq_true]
    intro x hx
    obtain ⟨c, h, rfl⟩ := List.mem_map.mp hx
    have := hc c h
    exact inW_int (by omega) (by omega)
theorem smW_all : ∀ {xs : List Dt}, xs.all smW = true → ∃ es : List En, xs = es.map enD ∧ ∀ e ∈ es, EnSm e
  | [], _ => ⟨[], rfl, fun c h => nomatch h⟩
  | x :: xs, h => by
    rw [List.all_cons, Bool.and_eq_true] at h
    obtain ⟨e, rfl, h1⟩ := smW_iff.mp h.1
    obtain ⟨es, rfl, h2⟩ := smW_all h.2
    refine ⟨e :: es, rfl, fun c hc => ?_⟩
    rcases List.mem_cons.mp hc with rfl | hc
    · exact h1
    · exact h2 c hc
theorem isLt_of {many : Nat} {w : Dt} (h : isLt many w = true) : ∃ l, w = ltD l ∧ LtOk many l := by
  unfold isLt at h
  split at h
  · rename_i z r
    split at h
    · rename_i hz
      subst hz
      unfold sayW at h
      split at h
      · rename_i a b c d
        rw [Bool.and_eq_true, Bool.and_eq_true, Bool.and_eq_true, Bool.and_eq_true] at h
        obtain ⟨ha, hb, hc, hd, he⟩ := h
        obtain ⟨i, rfl, i0, i1⟩ := inW_of ha
        obtain ⟨j, rfl, j0, j1⟩ := inW_of hb
        obtain ⟨k, rfl, k0, k1⟩ := inW_of hc
        obtain ⟨cs, rfl, hl, hm⟩ := cts_iff.mp hd
        unfold sayE at he
        dsimp only at he
        refine ⟨.say i.toNat j.toNat k.toNat cs, ?_, by omega, by omega, by omega, hl, hm, ?_⟩
        · unfold ltD
          dsimp only
          rw [Int.toNat_of_nonneg i0, Int.toNat_of_nonneg j0, Int.toNat_of_nonneg k0]
        · rw [show (lotW cs)[i.toNat]? = (cs[i.toNat]?).map fun c => Dt.int (c : Nat) from List.getElem?_map ..] at he
          cases e : cs[i.toNat]? with
          | none => rw [e] at he; cases he
          | some x =>
            rw [e] at he
            have he : decide ((x : Int) = k) = true := he
            rw [decide_eq_true_iff] at he
            congr 1
            omega
      · cases h
    · split at h
      · rename_i hz
        subst hz
        unfold telW at h
        split at h
        · rename_i a b es
          rw [Bool.and_eq_true, Bool.and_eq_true, Bool.and_eq_true, decide_eq_true_iff] at h
          obtain ⟨ha, hb, hl, hs⟩ := h
          obtain ⟨cs, rfl, hcl, hm⟩ := cts_iff.mp ha
          obtain ⟨j, rfl, j0, j1⟩ := inW_of hb
          obtain ⟨es, rfl, he⟩ := smW_all hs
          rw [List.length_map] at hl
          refine ⟨.tell cs j.toNat es, ?_, hcl, hm, by omega, hl, he⟩
          unfold ltD
          dsimp only
          rw [Int.toNat_of_nonneg j0]
        · cases h
      · cases h
  · cases h
theorem isLt_ok {many : Nat} {l : Lt} (h : LtOk many l) : isLt many (ltD l) = true := by
  cases l with
  | say n h' d cs =>
    obtain ⟨h1, h2, h3, h4, h5, h6⟩ := h
    show (inW (.int (n : Nat)) 0 ((many : Int) - 1) && (inW (.int (h' : Nat)) 0 99999 && (inW (.int (d : Nat)) 0 99999 && (ctsW many (.tup (lotW cs)) && sayE (.int (n : Nat)) (.tup (lotW cs)) (.int (d : Nat)))))) = true
    unfold sayE
    dsimp only
    rw [inW_int (by omega) (by omega), inW_int (by omega) (by omega), inW_int (by omega) (by omega), cts_iff.mpr ⟨cs, rfl, h4, h5⟩, Int.toNat_natCast, show (lotW cs)[n]? = (cs[n]?).map fun c => Dt.int (c : Nat) from List.getElem?_map .., h6]
    show decide (((d : Nat) : Int) = ((d : Nat) : Int)) = true
    exact decide_eq_true rfl
  | tell cs f es =>
    obtain ⟨h1, h2, h3, h4, h5⟩ := h
    show (ctsW many (.tup (lotW cs)) && (inW (.int (f : Nat)) 0 99999 && (decide ((es.map enD).length ≤ 60) && (es.map enD).all smW))) = true
    rw [cts_iff.mpr ⟨cs, rfl, h1, h2⟩, inW_int (by omega) (by omega), List.length_map, decide_eq_true h4, List.all_eq_true.mpr]
    · rfl
    · intro x hx
      obtain ⟨e, he, rfl⟩ := List.mem_map.mp hx
      exact smW_iff.mpr ⟨e, rfl, h5 e he⟩
theorem pl_lot (cs : List Nat) : pl (.tup (lotW cs)) = true := pl_tup_of fun w hw => by
  obtain ⟨c, _, rfl⟩ := List.mem_map.mp hw
  rfl
theorem pl_lt (l : Lt) : pl (ltD l) = true := by
  cases l with
  | say n h d cs =>
    refine pl_tup_of fun w hw => ?_
    simp only [List.mem_cons, List.not_mem_nil, or_false] at hw
    rcases hw with rfl | rfl | rfl | rfl | rfl
    · rfl
    · rfl
    · rfl
    · rfl
    · exact pl_lot cs
  | tell cs f es =>
    refine pl_tup_of fun w hw => ?_
    simp only [List.mem_cons, List.not_mem_nil, or_false] at hw
    rcases hw with rfl | rfl | rfl | rfl
    · rfl
    · exact pl_lot cs
    · rfl
    · exact pl_tup_of fun w hw => by
        obtain ⟨e, _, rfl⟩ := List.mem_map.mp hw
        exact pl_en e
theorem fmap_take {α : Type} {xs : List α} {f : α → List Int} {i : Nat} {q : α} (er : xs[i]? = some q) : (xs.take i).flatMap f ++ f q = (xs.take (i + 1)).flatMap f := by
  rw [List.take_succ, er, Option.toList_some, List.flatMap_append, List.flatMap_singleton]
theorem fmap_len {α : Type} {f : α → List Int} {k : Nat} : ∀ {xs : List α}, (∀ x ∈ xs, (f x).length ≤ k) → (xs.flatMap f).length ≤ k * xs.length
  | [], _ => Nat.zero_le _
  | x :: xs, h => by
    rw [List.flatMap_cons, List.length_append, List.length_cons, Nat.mul_succ]
    have := h x List.mem_cons_self
    have := fmap_len (f := f) (k := k) (xs := xs) fun y hy => h y (List.mem_cons_of_mem _ hy)
    omega
theorem enR_len {e : En} (h : EnOk e) : (enR e).length ≤ 150 := by
  have fl : ∀ n : Int, (figF 10 n).length ≤ 11 := fun n => figF_len
  cases e with
  | ord ps =>
    unfold enR
    have a := fl (ps.length : Nat)
    have b : (ps.flatMap fun p => figF 10 (p.1 : Nat) ++ figF 10 (p.2 : Nat)).length ≤ 22 * ps.length := fmap_len fun p _ => by
      have := fl (p.1 : Nat)
      have := fl (p.2 : Nat)
      rw [List.length_append]
      omega
    have := h.2.1
    rw [List.length_cons, List.length_append]
    omega
  | out n => have := fl (n : Nat); unfold enR; rw [List.length_cons]; omega
  | inn n => have := fl (n : Nat); unfold enR; rw [List.length_cons]; omega

/-! ### _law_hand -/
def G__law_hand : Fw := fun ws S Q _ => ∃ ns : List Int, ws = [.kl (ns.map Dt.int)] ∧ ns.length ≤ 63 ∧ ∀ h hd, S h = none → HandL hd → Q (.ref h) (sup S h (.lst hd))
theorem ok__law_hand (T : Txt P w K mg base c_BadFloor c_NoNumber c_BadRow c_NoRow c_Floor c_Reader) (D : Dfn2 K mg "_law_hand" "_law_hand" s__law_hand ["_law_script"])  : Cal P w K mg base "_law_hand" 1 ["_law_script"] 1 G__law_hand := by
  refine cal_of D sc__law_hand G__law_hand rfl fun f cdv A outer s H E hr => ?_
  have hu := hr.units
  refine ⟨_, (jss_cons (js_lcF (i := 1) (own := [("_law_cell", 2)]) rfl sc__law_hand.nd rfl rfl (ji_seq (je_slice o_slice (je_var (pv 0)) jo_none (jo_some je_int))) (blkOk_by (N := N__law_hand) (sc := defScope s__law_hand) (by decide +kernel)) binds_name (fun _ _ _ _ _ => (pg_name (i := 2) sc__law_hand.nd rfl (by first | exact Or.inl rfl | exact Or.inr rfl))) (fun _ _ _ _ _ => jts_nil) (fun _ _ _ _ _ => (je_callB (c_abs) (by rfl) T.n_abs (by decide +kernel) (ja_cons (je_callT c_int (by rfl) T.n_int (by decide +kernel) (ja_cons (je_var (pv 2)) ja_nil)) ja_nil)))) (jss_one (js_ret (je_ref (jl_lst (ja_cons (je_var (pv 1)) (ja_cons je_int (ja_cons je_int (ja_cons (je_op o_add je_int (je_callB (c_len) (by rfl) T.n_len (by decide +kernel) (ja_cons (je_var (pv 1)) ja_nil))) (ja_cons je_int ja_nil)))))))))), fun ws S Q Ex hl g => ?_⟩
  obtain ⟨ns, rfl, hl, g⟩ := g
  walk_at "go"
  rw [show cutW (ns.map Dt.int) none (some 63) = ns.map Dt.int by rw [cutW_take (by decide)]; exact List.take_of_length_le (by rw [List.length_map]; exact hl)]
  refine comp_all Dt.int (fun n : Int => Dt.int (if n < 0 then -n else n)) ns trivial (fun n hn => ?_) (by show _ ≤ 16777216; omega) ?_
  · exact ⟨_, rfl, fun k q => q⟩
  · walk_at "go"
    intro p hp
    exact clo.of (g p _ hp ⟨ns.map fun n : Int => if n < 0 then -n else n, 0, 0, _, 0, by rw [List.map_map]; rfl, by decide⟩)
/-! ### _law_draw -/
def G__law_draw : Fw := fun ws S Q _ => ∃ (h : Addr) (n : Int) (hd : List Dt), ws = [.ref h, .int n] ∧ S h = some (.lst hd) ∧ HandL hd ∧ 0 < n ∧ n.natAbs.log2 < 9000 ∧ ∀ r hd', 0 ≤ r → r < n → HandL hd' → Q (.int r) (sup S h (.lst hd'))
theorem ok__law_draw (T : Txt P w K mg base c_BadFloor c_NoNumber c_BadRow c_NoRow c_Floor c_Reader) (D : Dfn2 K mg "_law_draw" "_law_draw" s__law_draw ["_law_hand_here", "_law_many"])  : Cal P w K mg base "_law_draw" 1 ["_law_hand_here", "_law_many"] 2 G__law_draw := by
  refine cal_of D sc__law_draw G__law_draw rfl fun f cdv A outer s H E hr => ?_
  have hu := hr.units
  refine ⟨_, (jss_cut (js_if (jt_w (jw_and (jt_cmp (o_eq hu) (je_ix o_ix (je_var (pv 0)) je_int (fun _ _ => rfl)) je_int (nomark _)) (jw_one (jt_cmp o_lt (je_ix o_ix (je_var (pv 0)) je_int (fun _ _ => rfl)) (je_callB (c_len) (by rfl) T.n_len (by decide +kernel) (ja_cons (je_ix o_ix (je_var (pv 0)) je_int (fun _ _ => rfl)) ja_nil)) (nomark _))))) (jss_cons (js_set (je_ix o_ix (je_ix o_ix (je_var (pv 0)) je_int (fun _ _ => rfl)) (je_ix o_ix (je_var (pv 0)) je_int (fun _ _ => rfl)) (fun _ _ => rfl)) (pg_name (i := 3) sc__law_draw.nd rfl (by first | exact Or.inl rfl | exact Or.inr rfl))) (jss_cons (js_asg (je_op o_add (je_ix o_ix (je_var (pv 0)) je_int (fun _ _ => rfl)) je_int) (jg_sub (je_var (pv 0)) je_int s_list)) (jss_cons (js_asg (je_op o_mod (je_callT c_int (by rfl) T.n_int (by decide +kernel) (ja_cons (je_op o_add (je_op o_add (je_op o_mul (je_ix o_ix (je_var (pv 0)) je_int (fun _ _ => rfl)) je_int) (je_var (pv 3))) je_int) ja_nil)) je_int) (jg_sub (je_var (pv 0)) je_int s_list)) (jss_one (js_if (jt_cmp o_ge (je_var (pv 3)) (je_op o_pow je_int je_int) (nomark _)) (jss_one (js_asg (je_var (pv 3)) (jg_sub (je_var (pv 0)) je_int s_list))) jss_nil))))) jss_nil) (jss_cons (js_if (jt_cmp o_gt (je_ix o_ix (je_var (pv 0)) je_int (fun _ _ => rfl)) je_int (nomark _)) (jss_cons (js_set (je_op o_mod (je_callT c_int (by rfl) T.n_int (by decide +kernel) (ja_cons (je_ix o_ix (je_var (pv 0)) je_int (fun _ _ => rfl)) ja_nil)) (je_var (pv 1))) (pg_name (i := 4) sc__law_draw.nd rfl (by first | exact Or.inl rfl | exact Or.inr rfl))) (jss_cons (js_asg (je_op o_fdiv (je_ix o_ix (je_var (pv 0)) je_int (fun _ _ => rfl)) (je_var (pv 1))) (jg_sub (je_var (pv 0)) je_int s_list)) (jss_one (js_ret (je_var (pv 4)))))) jss_nil) (jss_cons (js_asg (je_op o_add (je_ix o_ix (je_var (pv 0)) je_int (fun _ _ => rfl)) je_int) (jg_sub (je_var (pv 0)) je_int s_list)) (jss_cons (js_set (je_op o_mod (je_callT c_int (by rfl) T.n_int (by decide +kernel) (ja_cons (je_op o_mul (je_callT c_int (by rfl) T.n_int (by decide +kernel) (ja_cons (je_op o_add (je_ix o_ix (je_var (pv 0)) je_int (fun _ _ => rfl)) (je_op o_mul je_int (je_ix o_ix (je_var (pv 0)) je_int (fun _ _ => rfl)))) ja_nil)) je_int) ja_nil)) je_int) (pg_name (i := 2) sc__law_draw.nd rfl (by first | exact Or.inl rfl | exact Or.inr rfl))) (jss_cons (js_set (je_op o_mod (je_callT c_int (by rfl) T.n_int (by decide +kernel) (ja_cons (je_op o_mul (je_var (pv 2)) (je_op o_add (je_op o_fdiv (je_var (pv 2)) je_int) je_int)) ja_nil)) je_int) (pg_name (i := 2) sc__law_draw.nd rfl (by first | exact Or.inl rfl | exact Or.inr rfl))) (jss_cons (js_set (je_op o_mod (je_callT c_int (by rfl) T.n_int (by decide +kernel) (ja_cons (je_op o_mul (je_var (pv 2)) (je_op o_add (je_op o_fdiv (je_var (pv 2)) je_int) je_int)) ja_nil)) je_int) (pg_name (i := 2) sc__law_draw.nd rfl (by first | exact Or.inl rfl | exact Or.inr rfl))) (jss_one (js_ret (je_op o_mod (je_callT c_int (by rfl) T.n_int (by decide +kernel) (ja_cons (je_op o_fdiv (je_var (pv 2)) je_int) ja_nil)) (je_var (pv 1))))))))))), fun ws S Q Ex hl g => ?_⟩
  obtain ⟨h, n, hd, rfl, hS, hh, hn, hn9, g0⟩ := g
  have g : ∀ r hd', 0 ≤ r → r < n → HandL hd' → clo Q (.int r) (sup S h (.lst hd')) := fun r hd' a b c => clo.of (g0 r hd' a b c)
  clear g0
  rw [sup_id hS] at g ⊢
  simp only [sup_sup] at g
  obtain ⟨ns, p, b, s', c, rfl, hp⟩ := hh
  unfold mCut
  walk_at "dh"
  refine ⟨fun σ S' => ∃ (p b s c : Int) (y2 y3 y4 : Option Dt), σ = [some (.ref h), some (.int n), y2, y3, y4] ∧ S' = sup S h (.lst [.lst (ns.map Dt.int), .int p, .int b, .int s, .int c]) ∧ 0 ≤ p, ?_, ?_⟩
  · by_cases e : b = 0
    · subst e
      by_cases hl : p < (ns.length : Int)
      · obtain ⟨x, hx⟩ := atI_ints hp hl
        simp only [hl, decide_true, hx]
        walk_at "dh"
        by_cases hc : (10 : Int) ^ Int.toNat 18 ≤ x
        · simp only [hc, decide_true]
          walk_at "dh"
          exact ⟨.inr (.inl (by decide)), by decide, by decide, p + 1, x, _, c, _, _, _, rfl, rfl, by omega⟩
        · simp only [hc, decide_false]
          walk_at "dh"
          exact ⟨.inr (.inl (by decide)), by decide, by decide, p + 1, 0, _, c, _, _, _, rfl, rfl, by omega⟩
      · simp only [hl, decide_true, decide_false]
        walk_at "dh"
        exact ⟨p, 0, s', c, _, _, _, rfl, rfl, hp⟩
    · simp only [e, decide_false]
      walk_at "dh"
      exact ⟨p, b, s', c, _, _, _, rfl, rfl, hp⟩
  · rintro σ S' ⟨p, b, s, c, y2, y3, y4, rfl, rfl, hp⟩
    walk_at "dh"
    by_cases hb : 0 < b
    · simp only [hb, decide_true]
      walk_at "dh"
      exact ⟨hn, ⟨hn, hn9⟩, g _ _ (Int.emod_nonneg _ (by omega)) (Int.emod_lt_of_pos _ hn) ⟨ns, p, b / n, s, c, rfl, hp⟩⟩
    · simp only [hb, decide_false]
      walk_at "dh"
      have r1 := Int.emod_nonneg ((s + 7919 * (c + 1)) * 48271) (by decide : (2147483647 : Int) ≠ 0)
      have r2 := Int.emod_lt_of_pos ((s + 7919 * (c + 1)) * 48271) (by decide : (0 : Int) < 2147483647)
      generalize (s + 7919 * (c + 1)) * 48271 % 2147483647 = q at r1 r2 ⊢
      have q1 := Int.emod_nonneg (q * (q / 1009 + 69621)) (by decide : (2147483647 : Int) ≠ 0)
      have q2 := Int.emod_lt_of_pos (q * (q / 1009 + 69621)) (by decide : (0 : Int) < 2147483647)
      generalize (q * (q / 1009 + 69621)) % 2147483647 = t at q1 q2 ⊢
      refine ⟨.inl (by decide), .inr (.inl (by decide)), by decide, ⟨by decide, by decide⟩, .inl (by omega), by decide, ⟨by decide, by decide⟩, .inl (by omega), by decide, ⟨by decide, by decide⟩, hn, g _ _ (Int.emod_nonneg _ (by omega)) (Int.emod_lt_of_pos _ hn) ⟨ns, p, b, s, c + 1, rfl, hp⟩⟩
/-! ### _law_mark -/
def G__law_mark : Fw := fun ws S Q _ => ∃ bs : List Int, (ws = [.lst (bs.map Dt.int)] ∨ ws = [.tup (bs.map Dt.int)]) ∧ Q (.int (mkF 1 bs)) S
theorem ok__law_mark (T : Txt P w K mg base c_BadFloor c_NoNumber c_BadRow c_NoRow c_Floor c_Reader) (D : Dfn2 K mg "_law_mark" "_law_mark" s__law_mark ["_law_row"])  : Cal P w K mg base "_law_mark" 1 ["_law_row"] 1 G__law_mark := by
  refine cal_of D sc__law_mark G__law_mark rfl fun f cdv A outer s H E hr => ?_
  have hu := hr.units
  refine ⟨_, (jss_cons (js_set je_int (pg_name (i := 1) sc__law_mark.nd rfl (by first | exact Or.inl rfl | exact Or.inr rfl))) (jss_cons (js_for passes_def rfl (ji_seq (je_var (pv 0))) (jg_name (pg_name (i := 2) sc__law_mark.nd rfl (by first | exact Or.inl rfl | exact Or.inr rfl))) (jss_one (js_set (je_op o_mod (je_op o_add (je_op o_add (je_op o_mul (je_var (pv 1)) je_int) (je_var (pv 2))) je_int) je_int) (pg_name (i := 1) sc__law_mark.nd rfl (by first | exact Or.inl rfl | exact Or.inr rfl))))) (jss_one (js_ret (je_var (pv 1)))))), fun ws S Q Ex hl g => ?_⟩
  obtain ⟨bs, hw, g⟩ := g
  rcases hw with rfl | rfl
  all_goals
    walk_at "go"
    refine forW_rule (fun i σ S' => ∃ (w y : Option Dt), S' = S ∧ σ = [w, some (.int (mkF 1 (bs.take i))), y]) ⟨_, _, rfl, rfl⟩ ?_ ?_
    · rintro i w σ S' N ew ⟨z, y, rfl, rfl⟩ hN
      obtain ⟨b, er, rfl⟩ := map_get ew
      refine ⟨trivial, ?_⟩
      walk_at "go"
      rw [mkF_take er]
      exact hN _ _ ⟨_, _, rfl, rfl⟩
    · rintro σ S' ⟨z, y, rfl, rfl⟩
      refine ⟨trivial, ?_⟩
      walk_at "go"
      rw [List.length_map, List.take_length]
      exact clo.of g
/-! ### _law_seal -/
def G__law_seal : Fw := fun ws S Q _ => ∃ bs : List Int, (ws = [.lst (bs.map Dt.int)] ∨ ws = [.tup (bs.map Dt.int)]) ∧ bs.length ≤ 300000 ∧ Q (.tup ((slF bs).map Dt.int)) S
theorem ok__law_seal (T : Txt P w K mg base c_BadFloor c_NoNumber c_BadRow c_NoRow c_Floor c_Reader) (D : Dfn2 K mg "_law_seal" "_law_seal" s__law_seal ["_law_row"]) (C__law_mark : Cal P w K mg base "_law_mark" 1 ["_law_row"] 1 G__law_mark) : Cal P w K mg base "_law_seal" 2 ["_law_row"] 1 G__law_seal := by
  refine cal_of D sc__law_seal G__law_seal rfl fun f cdv A outer s H E hr => ?_
  have hu := hr.units
  refine ⟨_, (jss_cons (js_set (je_op o_mod (je_cal C__law_mark (hr.mono (by omega)) takes_def (by rfl) (ja_cons (je_var (pv 0)) ja_nil)) je_int) (pg_name (i := 1) sc__law_seal.nd rfl (by first | exact Or.inl rfl | exact Or.inr rfl))) (jss_one (js_ret (je_callT c_tuple (by rfl) T.n_tuple (by decide +kernel) (ja_cons (je_op o_add (je_frz (jl_callT c_list (by rfl) T.n_list (by decide +kernel) (ja_cons (je_var (pv 0)) ja_nil))) (je_frz (jl_comp (own := [("_law_power", 2)]) rfl sc__law_seal.nd (ji_seq (je_tup (ja_cons je_int (ja_cons je_int (ja_cons je_int (ja_cons je_int ja_nil)))))) (blkOk_by (N := N__law_seal) (sc := defScope s__law_seal) (by decide +kernel)) binds_name (fun _ _ _ _ _ => (pg_name (i := 2) sc__law_seal.nd rfl (by first | exact Or.inl rfl | exact Or.inr rfl))) (fun _ _ _ _ _ => jts_nil) (fun _ _ _ _ _ => (je_op o_mod (je_op o_fdiv (je_var (pv 1)) (je_var (pv 2))) je_int))))) ja_nil))))), fun ws S Q Ex hl g => ?_⟩
  obtain ⟨bs, hw, hl, g⟩ := g
  rw [slF, List.map_append] at g
  rcases hw with rfl | rfl
  · walk_at "go"
    refine ⟨bs, .inl rfl, ?_⟩
    walk_at "go"
    refine ⟨by
      rw [List.length_map]
      show _ + 4 ≤ 16777216
      omega, ?_⟩
    walk_at "go"
    exact clo.of g
  · walk_at "go"
    refine ⟨bs, .inr rfl, ?_⟩
    walk_at "go"
    refine ⟨by
      rw [List.length_map]
      show _ + 4 ≤ 16777216
      omega, ?_⟩
    walk_at "go"
    exact clo.of g
/-! ### _law_bent_row -/
/-- some bytes -/
def BL (ws : List Dt) (n : Nat) : Prop := ∃ cs : List Int, ws = cs.map Dt.int ∧ cs.length ≤ n ∧ ∀ b ∈ cs, 0 ≤ b ∧ b ≤ 255
theorem BL.len {ws : List Dt} {n : Nat} (h : BL ws n) : ws.length ≤ n := by
  obtain ⟨cs, rfl, h, _⟩ := h
  rw [List.length_map]
  exact h
theorem BL.cut {ws : List Dt} {n : Nat} (h : BL ws n) (lo hi : Option Int) : BL (cutW ws lo hi) n := by
  obtain ⟨cs, rfl, h, hb⟩ := h
  refine ⟨cutW cs lo hi, cutW_map _ _ _ _, Nat.le_trans (cutW_le _ _ _) h, fun b hm => hb b ?_⟩
  unfold cutW at hm
  exact List.mem_of_mem_drop (List.mem_of_mem_take hm)
theorem BL.app {ws us : List Dt} {n m : Nat} (h : BL ws n) (h2 : BL us m) : BL (ws ++ us) (n + m) := by
  obtain ⟨cs, rfl, h, hb⟩ := h
  obtain ⟨ds, rfl, h2, hb2⟩ := h2
  refine ⟨cs ++ ds, (List.map_append ..).symm, by rw [List.length_append]; omega, fun b hm => ?_⟩
  rcases List.mem_append.mp hm with hm | hm
  · exact hb b hm
  · exact hb2 b hm
theorem slF_len (bs : List Int) : (slF bs).length = bs.length + 4 := by
  unfold slF
  rw [List.length_append, sealF_len]
theorem BL.spl {ws : List Dt} {n a b : Nat} {x : Int} (h : BL ws n) (h0 : 0 ≤ x) (h1 : x ≤ 255) (hab : a ≤ b) : BL (cutW ws none (some (a : Int)) ++ [Dt.int x] ++ cutW ws (some (b : Int)) none) (n + 1) := by
  obtain ⟨cs, rfl, h, hb⟩ := h
  refine ⟨cs.take a ++ [x] ++ cs.drop b, ?_, ?_, fun y hm => ?_⟩
  · rw [cutW_take (Int.natCast_nonneg _), cutW_drop (Int.natCast_nonneg _), Int.toNat_natCast, Int.toNat_natCast, List.map_append, List.map_append, List.map_take, List.map_drop]
    rfl
  · simp only [List.length_append, List.length_take, List.length_drop, List.length_cons, List.length_nil]
    omega
  · rcases List.mem_append.mp hm with hm | hm
    · rcases List.mem_append.mp hm with hm | hm
      · exact hb y (List.mem_of_mem_take hm)
      · rw [List.mem_singleton] at hm
        rw [hm]
        exact ⟨h0, h1⟩
    · exact hb y (List.mem_of_mem_drop hm)
theorem BL.one {x : Int} (h0 : 0 ≤ x) (h1 : x ≤ 255) : BL [Dt.int x] 1 := ⟨[x], rfl, Nat.le_refl _, fun b hb => by
  rw [List.mem_singleton] at hb
  rw [hb]
  exact ⟨h0, h1⟩⟩
def G__law_bent_row : Fw := fun ws S Q _ => ∃ (h : Addr) (hd : List Dt) (bs : List Int), ws = [.ref h, .tup (bs.map Dt.int)] ∧ S h = some (.lst hd) ∧ HandL hd ∧ bs.length ≤ 90000 ∧ (∀ b ∈ bs, 0 ≤ b ∧ b ≤ 255) ∧ ∀ (cs : List Int) hd', cs.length ≤ bs.length + 10 → (∀ b ∈ cs, 0 ≤ b ∧ b ≤ 255) → HandL hd' → Q (.tup (cs.map Dt.int)) (sup S h (.lst hd'))
theorem ok__law_bent_row (T : Txt P w K mg base c_BadFloor c_NoNumber c_BadRow c_NoRow c_Floor c_Reader) (D : Dfn2 K mg "_law_bent_row" "_law_bent_row" s__law_bent_row ["_law_hand_here", "_law_row"]) (C__law_draw : Cal P w K mg base "_law_draw" 1 ["_law_hand_here", "_law_many"] 2 G__law_draw) (C__law_seal : Cal P w K mg base "_law_seal" 2 ["_law_row"] 1 G__law_seal) : Cal P w K mg base "_law_bent_row" 3 ["_law_hand_here", "_law_row"] 2 G__law_bent_row := by
  refine cal_of D sc__law_bent_row G__law_bent_row rfl fun f cdv A outer s H E hr => ?_
  have hu := hr.units
  refine ⟨_, (jss_cons (js_set (je_cal C__law_draw (hr.mono (by omega)) takes_def (by rfl) (ja_cons (je_var (pv 0)) (ja_cons (je_op o_add (je_callB (c_len) (by rfl) T.n_len (by decide +kernel) (ja_cons (je_var (pv 1)) ja_nil)) je_int) ja_nil))) (pg_name (i := 2) sc__law_bent_row.nd rfl (by first | exact Or.inl rfl | exact Or.inr rfl))) (jss_cons (js_set (je_ix o_ix (je_frz (jl_lst (ja_cons je_int (ja_cons je_int (ja_cons je_int (ja_cons je_int (ja_cons je_int (ja_cons je_int (ja_cons je_int (ja_cons je_int (ja_cons (je_cal C__law_draw (hr.mono (by omega)) takes_def (by rfl) (ja_cons (je_var (pv 0)) (ja_cons je_int ja_nil))) ja_nil))))))))))) (je_cal C__law_draw (hr.mono (by omega)) takes_def (by rfl) (ja_cons (je_var (pv 0)) (ja_cons je_int ja_nil))) (fun _ _ => rfl)) (pg_name (i := 3) sc__law_bent_row.nd rfl (by first | exact Or.inl rfl | exact Or.inr rfl))) (jss_cons (js_if (jt_cmp (o_eq hu) (je_cal C__law_draw (hr.mono (by omega)) takes_def (by rfl) (ja_cons (je_var (pv 0)) (ja_cons je_int ja_nil))) je_int (nomark _)) (jss_cons (js_set (je_frz (jl_callT c_list (by rfl) T.n_list (by decide +kernel) (ja_cons (je_slice o_slice (je_var (pv 1)) jo_none (jo_some (je_un o_neg je_int))) ja_nil))) (pg_name (i := 4) sc__law_bent_row.nd rfl (by first | exact Or.inl rfl | exact Or.inr rfl))) (jss_cons (js_set (je_ix o_ix (je_frz (jl_lst (ja_cons (je_op o_add (je_op o_add (je_slice o_slice (je_var (pv 4)) jo_none (jo_some (je_var (pv 2)))) (je_frz (jl_lst (ja_cons (je_var (pv 3)) ja_nil)))) (je_slice o_slice (je_var (pv 4)) (jo_some (je_var (pv 2))) jo_none)) (ja_cons (je_slice o_slice (je_var (pv 4)) jo_none (jo_some (je_var (pv 2)))) (ja_cons (je_op o_add (je_var (pv 4)) (je_frz (jl_lst (ja_cons (je_var (pv 3)) ja_nil)))) (ja_cons (je_op o_add (je_op o_add (je_slice o_slice (je_var (pv 4)) jo_none (jo_some (je_var (pv 2)))) (je_frz (jl_lst (ja_cons (je_var (pv 3)) ja_nil)))) (je_slice o_slice (je_var (pv 4)) (jo_some (je_op o_add (je_var (pv 2)) je_int)) jo_none)) ja_nil)))))) (je_cal C__law_draw (hr.mono (by omega)) takes_def (by rfl) (ja_cons (je_var (pv 0)) (ja_cons je_int ja_nil))) (fun _ _ => rfl)) (pg_name (i := 5) sc__law_bent_row.nd rfl (by first | exact Or.inl rfl | exact Or.inr rfl))) (jss_one (js_ret (je_cal C__law_seal (hr.mono (by omega)) takes_def (by rfl) (ja_cons (je_var (pv 5)) ja_nil)))))) jss_nil) (jss_one (js_ret (je_ix o_ix (je_frz (jl_lst (ja_cons (je_op o_add (je_op o_add (je_slice o_slice (je_var (pv 1)) jo_none (jo_some (je_var (pv 2)))) (je_tup (ja_cons (je_var (pv 3)) ja_nil))) (je_slice o_slice (je_var (pv 1)) (jo_some (je_op o_add (je_var (pv 2)) je_int)) jo_none)) (ja_cons (je_slice o_slice (je_var (pv 1)) jo_none (jo_some (je_var (pv 2)))) (ja_cons (je_op o_add (je_var (pv 1)) (je_tup (ja_cons (je_var (pv 3)) ja_nil))) (ja_cons (je_slice o_slice (je_var (pv 1)) (jo_some je_int) jo_none) ja_nil)))))) (je_cal C__law_draw (hr.mono (by omega)) takes_def (by rfl) (ja_cons (je_var (pv 0)) (ja_cons je_int ja_nil))) (fun _ _ => rfl))))))), fun ws S Q Ex hl g => ?_⟩
  obtain ⟨h, hd, bs, rfl, hS, hh, hl, hb, g0⟩ := g
  have g : ∀ (cs : List Int) hd', cs.length ≤ bs.length + 10 → (∀ b ∈ cs, 0 ≤ b ∧ b ≤ 255) → HandL hd' → clo Q (.tup (cs.map Dt.int)) (sup S h (.lst hd')) := fun cs hd' a b c => clo.of (g0 cs hd' a b c)
  clear g0
  have lm : (bs.map Dt.int).length = bs.length := List.length_map ..
  walk_at "go"
  refine ⟨h, ((bs.length + 1 : Nat) : Int), hd, by rw [lm]; rfl, hS, hh, by omega, log_small (by omega), fun a hd a0 a1 hh => ?_⟩
  walk_at "go"
  refine ⟨h, 256, hd, rfl, sup_same, hh, by decide, log_small (by decide), fun k hd k0 k1 hh => ?_⟩
  rw [sup_sup]
  walk_at "go"
  refine ⟨h, 9, hd, rfl, sup_same, hh, by decide, log_small (by decide), fun k2 hd k20 k21 hh => ?_⟩
  rw [sup_sup]
  walk_at "go"
  obtain ⟨w, e2, hm⟩ := atI_some (xs := [Dt.int 0, .int 1, .int 2, .int 3, .int 4, .int 127, .int 128, .int 255, .int k]) k20 (by show k2 < 9; exact k21)
  rw [show atI _ k2 = _ from e2]
  obtain ⟨x, rfl, hx0, hx1⟩ : ∃ x : Int, w = .int x ∧ 0 ≤ x ∧ x ≤ 255 := by
    simp only [List.mem_cons, List.not_mem_nil, or_false] at hm
    rcases hm with rfl | rfl | rfl | rfl | rfl | rfl | rfl | rfl | rfl <;> exact ⟨_, rfl, by omega, by omega⟩
  clear e2 hm
  obtain ⟨a, rfl⟩ : ∃ n : Nat, a = n := ⟨a.toNat, by omega⟩
  walk_at "go"
  refine ⟨h, 2, hd, rfl, sup_same, hh, by decide, log_small (by decide), fun k3 hd k30 k31 hh => ?_⟩
  rw [sup_sup]
  walk_at "go"
  by_cases h3 : k3 = 0
  · rw [decide_eq_true h3]
    have B0 : BL (bs.map Dt.int) bs.length := ⟨bs, rfl, Nat.le_refl _, hb⟩
    have B1 := BL.one hx0 hx1
    have B2 := B0.cut none (some (-4))
    walk_at "go"
    generalize cutW (bs.map Dt.int) none (some (-4)) = us at B2
    have l1 := (B2.cut none (some (a : Int))).len
    have l2 := (B2.cut (some (a : Int)) none).len
    have l3 := (B2.cut (some ((a : Int) + 1)) none).len
    have l4 := B2.len
    refine ⟨by show _ + 1 ≤ 16777216; omega, ?_⟩
    walk_at "go"
    refine ⟨by rw [List.length_append]; show _ + 1 + _ ≤ 16777216; omega, ?_⟩
    walk_at "go"
    refine ⟨by show _ + 1 ≤ 16777216; omega, ?_⟩
    walk_at "go"
    refine ⟨by show _ + 1 ≤ 16777216; omega, ?_⟩
    walk_at "go"
    refine ⟨by rw [List.length_append]; show _ + 1 + _ ≤ 16777216; omega, ?_⟩
    walk_at "go"
    refine ⟨h, 4, hd, rfl, sup_same, hh, by decide, log_small (by decide), fun k4 hd k40 k41 hh => ?_⟩
    rw [sup_sup]
    walk_at "go"
    obtain ⟨w, e2, hm⟩ := atI_some (xs := [Dt.lst (cutW us none (some (a : Int)) ++ [.int x] ++ cutW us (some (a : Int)) none), .lst (cutW us none (some (a : Int))), .lst (us ++ [.int x]), .lst (cutW us none (some (a : Int)) ++ [.int x] ++ cutW us (some ((a : Int) + 1)) none)]) k40 (by show k4 < 4; exact k41)
    rw [show atI _ k4 = _ from e2]
    obtain ⟨ys, rfl, hy⟩ : ∃ ys, w = .lst ys ∧ BL ys (bs.length + 5) := by
      simp only [List.mem_cons, List.not_mem_nil, or_false] at hm
      rcases hm with rfl | rfl | rfl | rfl
      · obtain ⟨cs, e, c1, c2⟩ := B2.spl (a := a) (b := a) hx0 hx1 (Nat.le_refl _)
        exact ⟨_, rfl, cs, e, by omega, c2⟩
      · obtain ⟨cs, e, c1, c2⟩ := B2.cut none (some (a : Int))
        exact ⟨_, rfl, cs, e, by omega, c2⟩
      · obtain ⟨cs, e, c1, c2⟩ := B2.app B1
        exact ⟨_, rfl, cs, e, by omega, c2⟩
      · obtain ⟨cs, e, c1, c2⟩ := B2.spl (a := a) (b := a + 1) hx0 hx1 (Nat.le_succ _)
        exact ⟨_, rfl, cs, e, by omega, c2⟩
    obtain ⟨cs, rfl, c1, c2⟩ := hy
    clear e2 hm
    walk_at "go"
    refine ⟨cs, .inl rfl, by omega, ?_⟩
    walk_at "go"
    refine g (slF cs) _ (by rw [slF_len]; omega) (fun b hb => ?_) hh
    rcases List.mem_append.mp hb with hb | hb
    · exact c2 b hb
    · exact sealF_byte b hb
  · rw [decide_eq_false h3]
    have B0 : BL (bs.map Dt.int) bs.length := ⟨bs, rfl, Nat.le_refl _, hb⟩
    have B1 := BL.one hx0 hx1
    have l1 := (B0.cut none (some (a : Int))).len
    have l3 := (B0.cut (some ((a : Int) + 1)) none).len
    walk_at "go"
    refine ⟨by show _ + 1 ≤ 16777216; omega, ?_⟩
    walk_at "go"
    refine ⟨by rw [List.length_append]; show _ + 1 + _ ≤ 16777216; omega, ?_⟩
    walk_at "go"
    refine ⟨by rw [lm]; show _ + 1 ≤ 16777216; omega, ?_⟩
    walk_at "go"
    refine ⟨h, 4, hd, rfl, sup_same, hh, by decide, log_small (by decide), fun k4 hd k40 k41 hh => ?_⟩
    rw [sup_sup]
    walk_at "go"
    obtain ⟨w, e2, hm⟩ := atI_some (xs := [Dt.tup (cutW (bs.map Dt.int) none (some (a : Int)) ++ [.int x] ++ cutW (bs.map Dt.int) (some ((a : Int) + 1)) none), .tup (cutW (bs.map Dt.int) none (some (a : Int))), .tup (bs.map Dt.int ++ [.int x]), .tup (cutW (bs.map Dt.int) (some 1) none)]) k40 (by show k4 < 4; exact k41)
    rw [show atI _ k4 = _ from e2]
    obtain ⟨ys, rfl, hy⟩ : ∃ ys, w = .tup ys ∧ BL ys (bs.length + 5) := by
      simp only [List.mem_cons, List.not_mem_nil, or_false] at hm
      rcases hm with rfl | rfl | rfl | rfl
      · obtain ⟨cs, e, c1, c2⟩ := B0.spl (a := a) (b := a + 1) hx0 hx1 (Nat.le_succ _)
        exact ⟨_, rfl, cs, e, by omega, c2⟩
      · obtain ⟨cs, e, c1, c2⟩ := B0.cut none (some (a : Int))
        exact ⟨_, rfl, cs, e, by omega, c2⟩
      · obtain ⟨cs, e, c1, c2⟩ := B0.app B1
        exact ⟨_, rfl, cs, e, by omega, c2⟩
      · obtain ⟨cs, e, c1, c2⟩ := B0.cut (some 1) none
        exact ⟨_, rfl, cs, e, by omega, c2⟩
    obtain ⟨cs, rfl, c1, c2⟩ := hy
    clear e2 hm
    walk_at "go"
    exact g cs _ (by omega) c2 hh
/-! ### all_spots -/
def G_all_spots : Fw := fun ws S Q _ => ∃ R : Rws, ws = [.tup (R.map rowS)] ∧ GoodF R ∧ Q (.tup ((spotsF R).map spD)) S
theorem ok_all_spots (T : Txt P w K mg base c_BadFloor c_NoNumber c_BadRow c_NoRow c_Floor c_Reader) (D : Dfn2 K mg "all_spots" "all_spots" s_all_spots ["rows"])  : Cal P w K mg base "all_spots" 1 ["rows"] 1 G_all_spots := by
  refine cal_of D sc_all_spots G_all_spots rfl fun f cdv A outer s H E hr => ?_
  have hu := hr.units
  refine ⟨_, (jss_cons (js_set (je_ref (jl_lst ja_nil)) (pg_name (i := 1) sc_all_spots.nd rfl (by first | exact Or.inl rfl | exact Or.inr rfl))) (jss_cons (js_for passes_def rfl (ji_enum (by rfl) T.n_enumerate (ja_cons (je_var (pv 0)) ja_nil)) (jg_tup (n := 2) rfl (jgs_cons (jg_name (pg_name (i := 2) sc_all_spots.nd rfl (by first | exact Or.inl rfl | exact Or.inr rfl))) (jgs_cons (jg_name (pg_name (i := 3) sc_all_spots.nd rfl (by first | exact Or.inl rfl | exact Or.inr rfl))) jgs_nil))) (jss_one (js_drop (je_meth PySem.F.plainAttrs_list PySem.F.slot_list_extend PySem.F.type_list_extend m_extend (je_var (pv 1)) (ja_cons (je_frz (jl_comp (own := [("column", 4), ("sign", 5)]) rfl sc_all_spots.nd (ji_enum (by rfl) T.n_enumerate (ja_cons (je_var (pv 3)) ja_nil)) (blkOk_by (N := N_all_spots) (sc := defScope s_all_spots) (by decide +kernel)) (binds_pair (by decide)) (fun _ _ _ _ _ => (pg_tup rfl (pgs_cons (pg_name (i := 4) sc_all_spots.nd rfl (by first | exact Or.inl rfl | exact Or.inr rfl)) (pgs_cons (pg_name (i := 5) sc_all_spots.nd rfl (by first | exact Or.inl rfl | exact Or.inr rfl)) pgs_nil)))) (fun _ _ _ _ _ => (jts_one (jt_cmp (o_ne hu) (je_var (pv 5)) (je_gs (by rfl) T.g_WALL) (nomark _)))) (fun _ _ _ _ _ => (je_tup (ja_cons (je_var (pv 2)) (ja_cons (je_var (pv 4)) ja_nil)))))) ja_nil))))) (jss_one (js_ret (je_callT c_tuple (by rfl) T.n_tuple (by decide +kernel) (ja_cons (je_var (pv 1)) ja_nil)))))), fun ws S Q Ex hl g => ?_⟩
  obtain ⟨R, rfl, hR, g⟩ := g
  walk_at "go"
  intro p hp
  walk_at "go"
  rw [enumW_map]
  refine forW_rule (fun i σ S' => ∃ (y2 y3 : Option Dt), σ = [some (.tup (R.map rowS)), some (.ref p), y2, y3, none, none] ∧ S' = sup S p (.lst (((R.zipIdx.take i).flatMap fun p => rowSp p.2 p.1).map spD))) ⟨none, none, rfl, rfl⟩ ?_ ?_
  · rintro i w σ S' N ew ⟨y2, y3, rfl, rfl⟩ hN
    obtain ⟨⟨r, j⟩, er, rfl⟩ := map_get ew
    have hr : r.length ≤ 12 := by
      rw [hR.wl r (List.fst_mem_of_mem_zipIdx (List.mem_of_getElem? er))]
      exact hR.w2
    refine ⟨trivial, ?_⟩
    walk_at "go"
    refine ⟨tyW_at sup_same, ?_⟩
    walk_at "go"
    rw [show signsW ⟨(r, j).fst.toArray⟩ = r.map fun c => .str ⟨#[c]⟩ from rfl, enumW_map]
    refine comp_xs (fun p : Nat × Nat => .tup [.int (p.2 : Nat), .str ⟨#[p.1]⟩]) (fun p => !decide (p.1 = 35)) (fun p => spD (j, p.2)) trivial r.zipIdx [] (fun p hp => ?_) ?_ ?_
    · refine ⟨_, rfl, fun k q => ?_, fun _ k q => ?_⟩
      · walk_at "go"
        rw [show decide (p.1 = 35) = decide ((⟨#[p.1]⟩ : Str) = ("#" : Str)) by rw [Bool.eq_iff_iff, decide_eq_true_iff, decide_eq_true_iff, strWall, str_one]] at q
        exact q
      · walk_at "go"
        exact q
    · rw [List.length_nil, List.length_zipIdx]
      show _ ≤ 16777216
      omega
    · walk_at "go"
      rw [List.nil_append, show (r.zipIdx.filter fun p => !decide (p.1 = 35)).map (fun p => spD (j, p.2)) = (rowSp j r).map spD by unfold rowSp; rw [List.map_map]; rfl]
      have h1 := spots_take R (i + 1)
      have h2 := spots_len hR
      rw [spots_more er, List.length_append] at h1
      refine ⟨by rw [List.length_map, List.length_map]; show _ ≤ 16777216; omega, ?_⟩
      walk_at "go"
      rw [sup_sup, ← List.map_append, ← spots_more er]
      exact hN _ _ ⟨_, _, rfl, rfl⟩
  · rintro σ S' ⟨y2, y3, rfl, rfl⟩
    refine ⟨trivial, ?_⟩
    rw [List.length_map, List.take_length]
    walk_at "go"
    rw [lsv_at sup_same]
    walk_at "go"
    exact clo.sub g (sub_sup hp)
/-! ### all_ties -/
def G_all_ties : Fw := fun ws S Q _ => ∃ sp : List (Nat × Nat), ws = [.tup (sp.map spD)] ∧ sp.Nodup ∧ sp.length ≤ 144 ∧ Q (.tup ((tiesF sp).map fun l => .tup (lotW l))) S
theorem ok_all_ties (T : Txt P w K mg base c_BadFloor c_NoNumber c_BadRow c_NoRow c_Floor c_Reader) (D : Dfn2 K mg "all_ties" "all_ties" s_all_ties ["spots"])  : Cal P w K mg base "all_ties" 1 ["spots"] 1 G_all_ties := by
  refine cal_of D sc_all_ties G_all_ties rfl fun f cdv A outer s H E hr => ?_
  have hu := hr.units
  refine ⟨_, (jss_cons (js_set (je_frzT (jd_compT (own := [("cell", 6), ("spot", 7)]) hu rfl sc_all_ties.nd (ji_enum (by rfl) T.n_enumerate (ja_cons (je_var (pv 0)) ja_nil)) (blkOk_by (N := N_all_ties) (sc := defScope s_all_ties) (by decide +kernel)) (binds_pair (by decide)) (fun _ _ _ _ _ => (pg_tup rfl (pgs_cons (pg_name (i := 6) sc_all_ties.nd rfl (by first | exact Or.inl rfl | exact Or.inr rfl)) (pgs_cons (pg_name (i := 7) sc_all_ties.nd rfl (by first | exact Or.inl rfl | exact Or.inr rfl)) pgs_nil)))) (fun _ _ _ _ _ => jts_nil) (fun _ _ _ _ _ => (je_var (pv 7))) (fun _ _ _ _ _ => (je_var (pv 6))))) (pg_name (i := 1) sc_all_ties.nd rfl (by first | exact Or.inl rfl | exact Or.inr rfl))) (jss_cons (js_set (je_ref (jl_lst ja_nil)) (pg_name (i := 2) sc_all_ties.nd rfl (by first | exact Or.inl rfl | exact Or.inr rfl))) (jss_cons (js_for passes_def rfl (ji_seq (je_var (pv 0))) (jg_tup (n := 2) rfl (jgs_cons (jg_name (pg_name (i := 3) sc_all_ties.nd rfl (by first | exact Or.inl rfl | exact Or.inr rfl))) (jgs_cons (jg_name (pg_name (i := 4) sc_all_ties.nd rfl (by first | exact Or.inl rfl | exact Or.inr rfl))) jgs_nil))) (jss_cons (js_set (je_frz (jl_lst (ja_cons (je_tup (ja_cons (je_op o_sub (je_var (pv 3)) je_int) (ja_cons (je_var (pv 4)) ja_nil))) (ja_cons (je_tup (ja_cons (je_op o_add (je_var (pv 3)) je_int) (ja_cons (je_var (pv 4)) ja_nil))) (ja_cons (je_tup (ja_cons (je_var (pv 3)) (ja_cons (je_op o_sub (je_var (pv 4)) je_int) ja_nil))) (ja_cons (je_tup (ja_cons (je_var (pv 3)) (ja_cons (je_op o_add (je_var (pv 4)) je_int) ja_nil))) ja_nil)))))) (pg_name (i := 5) sc_all_ties.nd rfl (by first | exact Or.inl rfl | exact Or.inr rfl))) (jss_one (js_drop (je_meth PySem.F.plainAttrs_list PySem.F.slot_list_append PySem.F.type_list_append m_append (je_var (pv 2)) (ja_cons (je_callT c_tuple (by rfl) T.n_tuple (by decide +kernel) (ja_cons (je_frz (jl_callB c_sortedI (by rfl) T.n_sorted (by decide +kernel) (ja_cons (je_frz (jl_comp (own := [("spot", 7)]) rfl sc_all_ties.nd (ji_seq (je_var (pv 5))) (blkOk_by (N := N_all_ties) (sc := defScope s_all_ties) (by decide +kernel)) binds_name (fun _ _ _ _ _ => (pg_name (i := 7) sc_all_ties.nd rfl (by first | exact Or.inl rfl | exact Or.inr rfl))) (fun _ _ _ _ _ => (jts_one (jt_cmp (o_in hu) (je_var (pv 7)) (je_var (pv 1)) (by rfl)))) (fun _ _ _ _ _ => (je_ix (o_ixD hu) (je_var (pv 1)) (je_var (pv 7)) (fun _ _ => rfl))))) ja_nil))) ja_nil)) ja_nil)))))) (jss_one (js_ret (je_callT c_tuple (by rfl) T.n_tuple (by decide +kernel) (ja_cons (je_var (pv 2)) ja_nil))))))), fun ws S Q Ex hl g => ?_⟩
  obtain ⟨sp, rfl, nd, hl, g⟩ := g
  walk_at "go"
  rw [enumW_map]
  refine dcomp_xs (fun p : (Nat × Nat) × Nat => .tup [.int (p.2 : Nat), spD p.1]) (fun p => spD p.1) (fun p => kyP p.1) (fun p => .int (p.2 : Nat)) trivial (fun p => rfl) sp.zipIdx [] [] (fun p hp => ?_) ?_ ?_ ?_
  · refine ⟨_, rfl, fun k q => ?_, fun k q => ?_⟩
    · walk_at "go"
      exact q
    · walk_at "go"
      exact q
  · rw [List.nil_append, zipIdx_fst kyP]
    unfold List.Nodup
    rw [List.pairwise_map]
    exact nd.imp fun h z => h (kyP_inj z)
  · rw [List.length_nil, List.length_zipIdx]
    show _ ≤ 16777216
    omega
  · rw [List.nil_append, List.nil_append, zipIdx_fst kyP]
    walk_at "go"
    intro p hp
    walk_at "go"
    refine forW_rule (fun i σ S' => ∃ (y3 y4 y5 : Option Dt), σ = [some (.tup (sp.map spD)), some (.dT (sp.map kyP) (sp.zipIdx.map fun p => .int (p.2 : Nat))), some (.ref p), y3, y4, y5, none, none] ∧ S' = sup S p (.lst (((sp.take i).map (tieF sp)).map fun l => .tup (lotW l)))) ⟨none, none, none, rfl, rfl⟩ ?_ ?_
    · rintro i w σ S' N ew ⟨y3, y4, y5, rfl, rfl⟩ hN
      obtain ⟨⟨r, c⟩, er, rfl⟩ := map_get ew
      refine ⟨trivial, ?_⟩
      walk_at "go"
      refine ⟨tyW_at sup_same, ?_⟩
      rw [show (Dt.lst [.tup [.int ((r : Int) - 1), .int (c : Int)], .tup [.int ((r : Int) + 1), .int (c : Int)], .tup [.int (r : Int), .int ((c : Int) - 1)], .tup [.int (r : Int), .int ((c : Int) + 1)]]) = .lst ((aroundP (r, c)).map fun q => .tup [.int q.1, .int q.2]) from rfl]
      have ts := tie_sorted nd (r, c)
      have la : (aroundP (r, c)).length = 4 := rfl
      generalize aroundP (r, c) = X at ts la
      walk_at "go"
      refine comp_xs (fun q : Int × Int => .tup [.int q.1, .int q.2]) (fun q => (lookP sp 0 q).isSome) (fun q => .int (((lookP sp 0 q).getD 0 : Nat) : Int)) trivial X [] (fun q hq => ?_) (by rw [la]; exact Nat.le_of_ble_eq_true rfl) ?_
      · refine ⟨_, rfl, fun k h => ?_, fun hs k h => ?_⟩
        · walk_at "go"
          have e := lkW_look sp 0 q
          unfold kyI at e
          rw [e, Option.isSome_map]
          exact h
        · walk_at "go"
          rw [dlook_sp]
          obtain ⟨o, eo⟩ := Option.isSome_iff_exists.mp hs
          rw [eo] at h ⊢
          exact h
      · walk_at "go"
        refine ⟨(X.filter fun q => (lookP sp 0 q).isSome).map fun q => (((lookP sp 0 q).getD 0 : Nat) : Int), by rw [List.nil_append, List.map_map]; rfl, ?_⟩
        rw [ts]
        walk_at "go"
        refine ⟨by rw [List.length_map, List.length_map, List.length_take]; show _ < 16777216; omega, ?_⟩
        walk_at "go"
        rw [sup_sup]
        refine hN _ _ ⟨_, _, _, rfl, ?_⟩
        rw [take_succ er, List.map_append, List.map_append]
        rw [show ((tieF sp (r, c)).map fun c => ((c : Nat) : Int)).map Dt.int = lotW (tieF sp (r, c)) by unfold lotW; rw [List.map_map]; rfl]
        rfl
    · rintro σ S' ⟨y3, y4, y5, rfl, rfl⟩
      refine ⟨trivial, ?_⟩
      rw [List.length_map, List.take_length]
      walk_at "go"
      rw [lsv_at sup_same]
      walk_at "go"
      exact clo.sub g (sub_sup hp)
/-! ### spots_of -/
def G_spots_of : Fw := fun ws S Q _ => ∃ (R : Rws) (s : Nat), ws = [.tup (R.map rowS), .tup ((spotsF R).map spD), .str ⟨#[s]⟩] ∧ GoodF R ∧ Q (.tup (lotW (ofF R s))) S
theorem ok_spots_of (T : Txt P w K mg base c_BadFloor c_NoNumber c_BadRow c_NoRow c_Floor c_Reader) (D : Dfn2 K mg "spots_of" "spots_of" s_spots_of ["rows", "spots", "sign"])  : Cal P w K mg base "spots_of" 1 ["rows", "spots", "sign"] 3 G_spots_of := by
  refine cal_of D sc_spots_of G_spots_of rfl fun f cdv A outer s H E hr => ?_
  have hu := hr.units
  refine ⟨_, (jss_one (js_ret (je_callT c_tuple (by rfl) T.n_tuple (by decide +kernel) (ja_cons (je_frz (jl_comp (own := [("cell", 3), ("row", 4), ("column", 5)]) rfl sc_spots_of.nd (ji_enum (by rfl) T.n_enumerate (ja_cons (je_var (pv 1)) ja_nil)) (blkOk_by (N := N_spots_of) (sc := defScope s_spots_of) (by decide +kernel)) (binds_of (bg_tup (n := 2) (bg_cons bg_name (bg_cons (bg_tup (n := 2) (bg_cons bg_name (bg_cons bg_name bg_nil))) bg_nil))) (by decide)) (fun _ _ _ _ _ => (pg_tup rfl (pgs_cons (pg_name (i := 3) sc_spots_of.nd rfl (by first | exact Or.inl rfl | exact Or.inr rfl)) (pgs_cons (pg_tup rfl (pgs_cons (pg_name (i := 4) sc_spots_of.nd rfl (by first | exact Or.inl rfl | exact Or.inr rfl)) (pgs_cons (pg_name (i := 5) sc_spots_of.nd rfl (by first | exact Or.inl rfl | exact Or.inr rfl)) pgs_nil))) pgs_nil)))) (fun _ _ _ _ _ => (jts_one (jt_cmp (o_eq hu) (je_ix o_ix (je_ix o_ix (je_var (pv 0)) (je_var (pv 4)) (fun _ _ => rfl)) (je_var (pv 5)) (fun _ _ => rfl)) (je_var (pv 2)) (nomark _)))) (fun _ _ _ _ _ => (je_var (pv 3))))) ja_nil)))), fun ws S Q Ex hl g => ?_⟩
  obtain ⟨R, s', rfl, hR, g⟩ := g
  walk_at "go"
  rw [enumW_map]
  refine comp_xs (fun p : (Nat × Nat) × Nat => .tup [.int (p.2 : Nat), spD p.1]) (fun p => decide (signF R p.1 = s')) (fun p => .int (p.2 : Nat)) trivial (spotsF R).zipIdx [] (fun p hp => ?_) ?_ ?_
  · have hs := (mem_spots.mp (List.fst_mem_of_mem_zipIdx hp))
    have hw : (R.getD p.1.1 []).length ≤ 12 := by
      rw [hR.wl _ (getD_mem hs.1)]
      exact hR.w2
    refine ⟨_, rfl, fun k q => ?_, fun _ k q => ?_⟩
    · walk_at "go"
      rw [atI_map [] hs.1]
      walk_at "go"
      refine ⟨by rw [rowS_len]; show _ ≤ 16777216; omega, ?_⟩
      rw [row_at hs.2.1]
      walk_at "go"
      rw [show decide (signF R p.1 = s') = decide ((⟨#[(R.getD p.1.1 []).getD p.1.2 0]⟩ : Str) = ⟨#[s']⟩) by rw [Bool.eq_iff_iff, decide_eq_true_iff, decide_eq_true_iff, str_one]; exact Iff.rfl] at q
      exact q
    · walk_at "go"
      exact q
  · have := spots_len hR
    rw [List.length_nil, List.length_zipIdx]
    show _ ≤ 16777216
    omega
  · walk_at "go"
    unfold ofF lotW at g
    rw [List.map_map] at g
    exact clo.of g
/-! ### is_sized -/
def G_is_sized : Fw := fun ws S Q _ => ∃ w lo hi, ws = [w, .int lo, .int hi] ∧ pl w = true ∧ Q (.bl (szW w lo hi)) S
theorem ok_is_sized (T : Txt P w K mg base c_BadFloor c_NoNumber c_BadRow c_NoRow c_Floor c_Reader) (D : Dfn2 K mg "is_sized" "is_sized" s_is_sized ["thing", "least", "most"])  : Cal P w K mg base "is_sized" 1 ["thing", "least", "most"] 3 G_is_sized := by
  refine cal_of D sc_is_sized G_is_sized rfl fun f cdv A outer s H E hr => ?_
  have hu := hr.units
  refine ⟨_, (jss_one (js_ret (je_and (je_callB (c_isi) (by rfl) T.n_isinstance (by decide +kernel) (ja_cons (je_var (pv 0)) (ja_cons (je_bty (T := "tuple") (by rfl) T.n_tuple (by decide +kernel)) ja_nil))) (je_one (je_chain o_le o_le (je_var (pv 1)) (je_callB (c_len) (by rfl) T.n_len (by decide +kernel) (ja_cons (je_var (pv 0)) ja_nil)) (je_var (pv 2))))))), fun ws S Q Ex hl g => ?_⟩
  obtain ⟨w, lo, hi, rfl, kw, g⟩ := g
  obtain ⟨t, kt⟩ := kn_pl (S := S) kw
  have g : clo Q (.bl (szW w lo hi)) S := clo.of g
  walk_at "dn"
  simp only [kt, kT kt]
  cases w with
  | tup xs =>
    walk_at "go"
    rw [show szW (.tup xs) lo hi = (decide (lo ≤ (xs.length : Int)) && decide ((xs.length : Int) ≤ hi)) from rfl] at g
    by_cases h : lo ≤ (xs.length : Int)
    · rw [decide_eq_true h] at g ⊢
      walk_at "go"
      exact g
    · rw [decide_eq_false h] at g ⊢
      walk_at "go"
      exact g
  | kt _ => cases kw
  | _ => exact g
/-! ### is_row_floors -/
def G_is_row_floors : Fw := fun ws S Q _ => ∃ w, ws = [w] ∧ pl w = true ∧ (∀ z, w = .str z → z.length ≤ 100000) ∧ Q (.bl (frowW w)) S
theorem ok_is_row_floors (T : Txt P w K mg base c_BadFloor c_NoNumber c_BadRow c_NoRow c_Floor c_Reader) (D : Dfn2 K mg "is_row_floors" "is_row" s_is_row_floors ["thing"])  : Cal P w K mg base "is_row_floors" 1 ["thing"] 1 G_is_row_floors := by
  refine cal_of D sc_is_row_floors G_is_row_floors rfl fun f cdv A outer s H E hr => ?_
  have hu := hr.units
  refine ⟨_, (jss_cons (js_if (jt_w (jw_or (jt_not (jt_val (je_callB (c_isi) (by rfl) T.n_isinstance (by decide +kernel) (ja_cons (je_var (pv 0)) (ja_cons (je_bty (T := "str") (by rfl) T.n_str (by decide +kernel)) ja_nil))))) (jw_one (jt_not (jt_chain o_le o_le je_int (je_callB (c_len) (by rfl) T.n_len (by decide +kernel) (ja_cons (je_var (pv 0)) ja_nil)) (je_gi (by rfl) T.g_MOST_ROWS)))))) (jss_one (js_ret je_bl)) jss_nil) (jss_one (js_ret (je_callB (c_all rfl) (by rfl) T.n_all (by decide +kernel) (ja_cons (je_frz (jl_comp (own := [("sign", 1)]) rfl sc_is_row_floors.nd (ji_seq (je_var (pv 0))) (blkOk_by (N := N_is_row_floors) (sc := defScope s_is_row_floors) (by decide +kernel)) binds_name (fun _ _ _ _ _ => (pg_name (i := 1) sc_is_row_floors.nd rfl (by first | exact Or.inl rfl | exact Or.inr rfl))) (fun _ _ _ _ _ => jts_nil) (fun _ _ _ _ _ => (je_cmp (o_in hu) (je_var (pv 1)) (je_op o_add (je_op o_add (je_op o_add (je_gs (by rfl) T.g_FREE) (je_gs (by rfl) T.g_WALL)) (je_gs (by rfl) T.g_HOME)) (je_gs (by rfl) T.g_STATION)) (by rfl))))) ja_nil))))), fun ws S Q Ex hl g => ?_⟩
  obtain ⟨w, rfl, kw, hz, g⟩ := g
  obtain ⟨t, kt⟩ := kn_pl (S := S) kw
  have g : clo Q (.bl (frowW w)) S := clo.of g
  walk_at "dn"
  simp only [kt, kS kt]
  cases w with
  | str z =>
    have hz := hz z rfl
    walk_at "go"
    refine ⟨by show z.length ≤ 16777216; omega, ?_⟩
    walk_at "go"
    rw [show frowW (.str z) = (decide (1 ≤ z.length) && decide (z.length ≤ 12) && z.cps.toList.all isSg) from rfl] at g
    by_cases h1 : 1 ≤ z.length
    · rw [decide_eq_true (show (1 : Int) ≤ (z.length : Int) by omega)]
      rw [decide_eq_true h1] at g
      walk_at "go"
      by_cases h2 : z.length ≤ 12
      · rw [decide_eq_true (show (z.length : Int) ≤ 12 by omega)]
        rw [decide_eq_true h2] at g
        walk_at "go"
        refine comp_all (α := Nat) (fun c => .str ⟨#[c]⟩) (fun c => .bl (isSg c)) z.cps.toList trivial (fun c hc => ?_) (by have : z.cps.toList.length = z.length := Array.length_toList; show _ ≤ 16777216; omega) ?_
        · refine ⟨_, rfl, fun k q => ?_⟩
          walk_at "go"
          have e := isSg_mem c
          rw [← e] at q
          exact ⟨c, rfl, q⟩
        · walk_at "go"
          refine ⟨z.cps.toList.map isSg, by rw [List.map_map]; rfl, ?_⟩
          rw [List.all_map]
          exact g
      · rw [decide_eq_false (show ¬ (z.length : Int) ≤ 12 by omega)]
        rw [decide_eq_false h2] at g
        walk_at "go"
        exact g
    · rw [decide_eq_false (show ¬ (1 : Int) ≤ (z.length : Int) by omega)]
      rw [decide_eq_false h1] at g
      walk_at "go"
      exact g
  | kt _ => cases kw
  | _ => exact g
/-! ### Floor_init -/
def G_Floor_init (c_Floor c_BadFloor : Addr) : Fw := fun ws S Q Ex => ∃ (a : Addr) (S0 : Store) (w : Dt), ws = [.ref a, w] ∧ S = sup S0 a (.ins c_Floor [] []) ∧ S0 a = none ∧ pl w = true ∧ (∀ xs, w = .tup xs → ∀ x ∈ xs, ∀ z, x = .str z → z.length ≤ 100000) ∧ (∀ R, GoodF R → w = .tup (R.map rowS) → ∀ ns fs, floorD c_Floor R = .ins c_Floor ns fs → Q .non (sup S0 a (.ins c_Floor ns fs))) ∧
  (∀ b, badW w = some b → Ex ⟨.ref c_BadFloor, some (["part"], [b])⟩ S0)
theorem ok_Floor_init (T : Txt P w K mg base c_BadFloor c_NoNumber c_BadRow c_NoRow c_Floor c_Reader) (D : DfnI K mg "Floor" c_Floor "Floor.__init__" s_Floor_init ["self", "rows"]) (C_spots_of : Cal P w K mg base "spots_of" 1 ["rows", "spots", "sign"] 3 G_spots_of) (C_all_ties : Cal P w K mg base "all_ties" 1 ["spots"] 1 G_all_ties) (C_all_spots : Cal P w K mg base "all_spots" 1 ["rows"] 1 G_all_spots) (C_is_row_floors : Cal P w K mg base "is_row_floors" 1 ["thing"] 1 G_is_row_floors) (C_is_sized : Cal P w K mg base "is_sized" 1 ["thing", "least", "most"] 3 G_is_sized) : CalI P w K mg base "Floor" c_Floor 3 ["self", "rows"] 2 (G_Floor_init c_Floor c_BadFloor) := by
  refine calI_of D sc_Floor_init (G_Floor_init c_Floor c_BadFloor) rfl fun f cdv A outer s H E hr => ?_
  have hu := hr.units
  refine ⟨_, (jss_cons (js_if (jt_not (jt_val (je_cal C_is_sized (hr.mono (by omega)) takes_def (by rfl) (ja_cons (je_var (pv 1)) (ja_cons je_int (ja_cons (je_gi (by rfl) T.g_MOST_ROWS) ja_nil)))))) (jss_one (js_raise rfl takes_def (jr_exc1 T.x_BadFloor (hr.mono (by omega)) (by rfl) (je_un o_neg je_int)))) jss_nil) (jss_cons (js_for passes_def rfl (ji_enum (by rfl) T.n_enumerate (ja_cons (je_var (pv 1)) ja_nil)) (jg_tup (n := 2) rfl (jgs_cons (jg_name (pg_name (i := 2) sc_Floor_init.nd rfl (by first | exact Or.inl rfl | exact Or.inr rfl))) (jgs_cons (jg_name (pg_name (i := 3) sc_Floor_init.nd rfl (by first | exact Or.inl rfl | exact Or.inr rfl))) jgs_nil))) (jss_one (js_if (jt_w (jw_or (jt_not (jt_val (je_cal C_is_row_floors (hr.mono (by omega)) takes_def (by rfl) (ja_cons (je_var (pv 3)) ja_nil)))) (jw_one (jt_cmp (o_ne hu) (je_callB (c_len) (by rfl) T.n_len (by decide +kernel) (ja_cons (je_var (pv 3)) ja_nil)) (je_callB (c_len) (by rfl) T.n_len (by decide +kernel) (ja_cons (je_ix o_ix (je_var (pv 1)) je_int (fun _ _ => rfl)) ja_nil)) (nomark _))))) (jss_one (js_raise rfl takes_def (jr_exc1 T.x_BadFloor (hr.mono (by omega)) (by rfl) (je_var (pv 2))))) jss_nil))) (jss_cons (js_if (jt_not (jt_chain o_le o_le je_int (je_callB (c_sum rfl) (by rfl) T.n_sum (by decide +kernel) (ja_cons (je_frz (jl_comp (own := [("row", 3)]) rfl sc_Floor_init.nd (ji_seq (je_var (pv 1))) (blkOk_by (N := N_Floor_init) (sc := defScope s_Floor_init) (by decide +kernel)) binds_name (fun _ _ _ _ _ => (pg_name (i := 3) sc_Floor_init.nd rfl (by first | exact Or.inl rfl | exact Or.inr rfl))) (fun _ _ _ _ _ => jts_nil) (fun _ _ _ _ _ => (je_meth PySem.F.plainAttrs_str PySem.F.slot_str_count PySem.F.type_str_count m_count (je_var (pv 3)) (ja_cons (je_gs (by rfl) T.g_HOME) ja_nil))))) ja_nil)) (je_gi (by rfl) T.g_MOST_HOMES))) (jss_one (js_raise rfl takes_def (jr_exc1 T.x_BadFloor (hr.mono (by omega)) (by rfl) je_str))) jss_nil) (jss_cons (js_newF (ns0 := []) (ns1 := ["rows"]) T.fd_Floor_rows (by decide +kernel) (by decide +kernel) (by decide) (je_var (pv 0)) (je_var (pv 1))) (jss_cons (js_newF (ns0 := ["rows"]) (ns1 := ["rows", "spots"]) T.fd_Floor_spots (by decide +kernel) (by decide +kernel) (by decide) (je_var (pv 0)) (je_cal C_all_spots (hr.mono (by omega)) takes_def (by rfl) (ja_cons (je_var (pv 1)) ja_nil))) (jss_cons (js_newF (ns0 := ["rows", "spots"]) (ns1 := ["rows", "spots", "ties"]) T.fd_Floor_ties (by decide +kernel) (by decide +kernel) (by decide) (je_var (pv 0)) (je_cal C_all_ties (hr.mono (by omega)) takes_def (by rfl) (ja_cons (je_fld (ns0 := ["rows", "spots"]) (i := 1) T.fd_Floor_spots (fieldAt_of (by decide +kernel)) (je_var (pv 0))) ja_nil))) (jss_cons (js_newF (ns0 := ["rows", "spots", "ties"]) (ns1 := ["rows", "spots", "ties", "rests"]) T.fd_Floor_rests (by decide +kernel) (by decide +kernel) (by decide) (je_var (pv 0)) (je_cal C_spots_of (hr.mono (by omega)) takes_def (by rfl) (ja_cons (je_var (pv 1)) (ja_cons (je_fld (ns0 := ["rows", "spots", "ties"]) (i := 1) T.fd_Floor_spots (fieldAt_of (by decide +kernel)) (je_var (pv 0))) (ja_cons (je_gs (by rfl) T.g_HOME) ja_nil))))) (jss_one (js_newF (ns0 := ["rows", "spots", "ties", "rests"]) (ns1 := ["rows", "spots", "ties", "rests", "stops"]) T.fd_Floor_stops (by decide +kernel) (by decide +kernel) (by decide) (je_var (pv 0)) (je_cal C_spots_of (hr.mono (by omega)) takes_def (by rfl) (ja_cons (je_var (pv 1)) (ja_cons (je_fld (ns0 := ["rows", "spots", "ties", "rests"]) (i := 1) T.fd_Floor_spots (fieldAt_of (by decide +kernel)) (je_var (pv 0))) (ja_cons (je_gs (by rfl) T.g_STATION) ja_nil))))))))))))), fun ws S Q Ex hl g => ?_⟩
  obtain ⟨a, S0, w, rfl, rfl, hn, kw, hz, g1, g2⟩ := g
  walk_at "go"
  refine ⟨w, 1, 12, rfl, kw, ?_⟩
  cases hs : szW w 1 12 with
  | false =>
    walk_at "go"
    refine clX.sub (g2 (.int (-1)) ?_) (sub_sup hn)
    cases w with
    | tup xs =>
      have hs : (decide ((1 : Int) ≤ (xs.length : Int)) && decide ((xs.length : Int) ≤ 12)) = false := hs
      show (if 1 ≤ xs.length ∧ xs.length ≤ 12 then _ else _) = _
      rw [if_neg]
      intro z
      rw [decide_eq_true (by omega), decide_eq_true (by omega)] at hs
      cases hs
    | _ => rfl
  | true =>
    cases w with
    | tup xs =>
      have hs : (decide ((1 : Int) ≤ (xs.length : Int)) && decide ((xs.length : Int) ≤ 12)) = true := hs
      rw [Bool.and_eq_true, decide_eq_true_iff, decide_eq_true_iff] at hs
      have hx1 : 1 ≤ xs.length := by omega
      have hx2 : xs.length ≤ 12 := by omega
      have hz := hz xs rfl
      have g2 : ∀ b, (match badRow xs with
        | some k => some (.int (k : Nat))
        | none => if 1 ≤ homesF (xs.map rowOf) ∧ homesF (xs.map rowOf) ≤ 6 then none else some (.str "homes")) = some b → clX Ex ⟨.ref c_BadFloor, some (["part"], [b])⟩ (sup S0 a (.ins c_Floor [] [])) := fun b e => clX.sub (g2 b (by
          show (if 1 ≤ xs.length ∧ xs.length ≤ 12 then _ else _) = _
          rw [if_pos ⟨hx1, hx2⟩]
          exact e)) (sub_sup hn)
      walk_at "go"
      refine forW_rule (fun i σ S' => ∃ (y2 y3 : Option Dt), σ = [some (.ref a), some (.tup xs), y2, y3] ∧ S' = sup S0 a (.ins c_Floor [] []) ∧ ∀ (j : Nat) (v : Dt), j < i → xs[j]? = some v → (!frowW v || !decide (lenW v = lenW (xs.headD .non))) = false) ⟨none, none, rfl, rfl, fun j v h => absurd h (Nat.not_lt_zero _)⟩ ?_ ?_
      · rintro i u σ S' N ew ⟨y2, y3, rfl, rfl, hok⟩ hN
        obtain ⟨v, ev, rfl⟩ := enumW_get ew
        refine ⟨trivial, ?_⟩
        have hv := List.mem_of_getElem? ev
        walk_at "go"
        refine ⟨v, rfl, pl_tup kw v hv, fun z e => hz v hv z e, ?_⟩
        cases hf : frowW v with
        | false =>
          walk_at "go"
          rw [Nat.zero_add]
          exact g2 _ (by rw [badRow_some ev (by rw [hf]; rfl) hok])
        | true =>
          obtain ⟨h0, h0'⟩ := head_at hx1
          have hf0 : frowW (xs.headD .non) = true := by
            by_cases hi : i = 0
            · subst hi
              rw [h0] at ev
              cases ev
              exact hf
            · have := hok 0 _ (by omega) h0
              rw [Bool.or_eq_false_iff, Bool.not_eq_false'] at this
              exact this.1
          obtain ⟨z, ez, z1, z2, z3, z4, z5, z6⟩ := frowW_of hf
          obtain ⟨z0, ez0, z01, z02, z03, z04, z05, z06⟩ := frowW_of hf0
          have hbad : (!frowW v || !decide (lenW v = lenW (xs.headD .non))) = !decide ((z.length : Int) = (z0.length : Int)) := by
            rw [hf, z4, z04, Bool.not_true, Bool.false_or]
            congr 1
            rw [Bool.eq_iff_iff, decide_eq_true_iff, decide_eq_true_iff]
            omega
          rw [ez0] at h0'
          subst ez
          walk_at "go"
          refine ⟨by show z.length ≤ 16777216; omega, ?_⟩
          walk_at "go"
          rw [h0']
          walk_at "go"
          refine ⟨by show z0.length ≤ 16777216; omega, ?_⟩
          walk_at "go"
          cases hd : decide ((z.length : Int) = (z0.length : Int)) with
          | true =>
            rw [hd] at hbad
            walk_at "go"
            refine hN _ _ ⟨_, _, rfl, rfl, fun j u hj e => ?_⟩
            by_cases hji : j = i
            · subst hji
              rw [ev] at e
              cases e
              exact hbad
            · exact hok j u (by omega) e
          | false =>
            rw [hd] at hbad
            walk_at "go"
            rw [Nat.zero_add]
            exact g2 _ (by rw [badRow_some ev hbad hok])
      · rintro σ S' ⟨y2, y3, rfl, rfl, hok⟩
        refine ⟨trivial, ?_⟩
        rw [enumW_len] at hok
        have hok : ∀ (j : Nat) (v : Dt), xs[j]? = some v → (!frowW v || !decide (lenW v = lenW (xs.headD .non))) = false := fun j v e => hok j v (List.getElem?_eq_some_iff.mp e).1 e
        have fr : ∀ w ∈ xs, frowW w = true := fun w hw => by
          obtain ⟨j, hj, e⟩ := List.mem_iff_getElem.mp hw
          have := hok j w (by rw [List.getElem?_eq_getElem hj, e])
          rw [Bool.or_eq_false_iff, Bool.not_eq_false'] at this
          exact this.1
        have exs := rows_of fr
        have hg := good_of hx1 hx2 hok
        have g3 := g2
        rw [badRow_none hok] at g3
        clear g2
        have hl12 : ∀ r ∈ xs.map rowOf, r.length ≤ 12 := fun r hr => by
          obtain ⟨w, hw, rfl⟩ := List.mem_map.mp hr
          obtain ⟨z, _, _, z2, _, _, _, z6⟩ := frowW_of (fr w hw)
          omega
        generalize xs.map rowOf = R at exs hg g3 hl12
        subst exs
        rw [List.length_map] at hx2
        walk_at "go"
        refine comp_all rowS (fun r => .int (r.count 72 : Nat)) R trivial (fun r hr => ?_) (by show _ ≤ 16777216; omega) ?_
        · refine ⟨_, rfl, fun k q => ?_⟩
          have := hl12 r hr
          walk_at "go"
          rw [count_row]
          exact q
        · walk_at "go"
          refine ⟨R.map fun r => ((r.count 72 : Nat) : Int), by rw [List.map_map]; rfl, ?_⟩
          rw [sum_count]
          walk_at "go"
          by_cases o1 : 1 ≤ homesF R
          · rw [decide_eq_true (show (1 : Int) ≤ (homesF R : Nat) by omega)]
            walk_at "go"
            by_cases o2 : homesF R ≤ 6
            · rw [decide_eq_true (show ((homesF R : Nat) : Int) ≤ 6 by omega)]
              have hR := hg o1 o2
              walk_at "go"
              refine ⟨R, rfl, hR, ?_⟩
              walk_at "go"
              refine ⟨spotsF R, rfl, spots_nodup R, spots_len hR, ?_⟩
              walk_at "go"
              refine ⟨R, 72, by rw [← strH], hR, ?_⟩
              walk_at "go"
              refine ⟨R, 83, by rw [← strS], hR, ?_⟩
              walk_at "go"
              simp only [sup_sup]
              exact clo.of (g1 R hR rfl _ _ rfl)
            · rw [decide_eq_false (show ¬ ((homesF R : Nat) : Int) ≤ 6 by omega)]
              walk_at "go"
              exact g3 _ (by rw [if_neg (fun z => o2 z.2)])
          · rw [decide_eq_false (show ¬ (1 : Int) ≤ (homesF R : Nat) by omega)]
            walk_at "go"
            exact g3 _ (by rw [if_neg (fun z => o1 z.1)])
    | _ => cases hs
/-! ### _law_floor -/
def fls : List Rws := [[[72, 46, 83], [72, 46, 83]], [[72, 83]], [[83, 46, 72], [46, 46, 46], [72, 46, 83]], [[72, 46, 83, 46, 72]], [[72, 46, 72], [46, 46, 46], [83, 46, 83], [72, 46, 46]], [[72, 35, 83], [46, 46, 46], [72, 46, 83]], [[72, 46, 83, 46], [46, 46, 46, 46], [46, 83, 46, 72]], [[72]], [[72, 83, 83, 72], [46, 46, 46, 46], [72, 46, 46, 72]], [[72, 46, 72], [46, 83, 46], [72, 46, 72], [46, 46, 72]], [[72, 46, 72], [46, 83, 46], [72, 46, 72], [46, 46, 72]], [[72, 46, 72], [46, 46, 46], [83, 46, 83], [46, 46, 46], [72, 46, 72], [72, 46, 72]], [[72, 46, 72], [46, 46, 46], [83, 46, 83], [46, 46, 46], [72, 46, 72], [72, 46, 72]]]
theorem fls_good : ∀ R ∈ fls, GoodF R := by
  intro R hR
  simp only [fls, List.mem_cons, List.not_mem_nil, or_false] at hR
  rcases hR with rfl | rfl | rfl | rfl | rfl | rfl | rfl | rfl | rfl | rfl | rfl | rfl | rfl <;> (refine ⟨?_, ?_, ?_, ?_, ?_, ?_, ?_, ?_⟩ <;> decide +kernel)
def G__law_floor (c_Floor : Addr) : Fw := fun ws S Q _ => ∃ (h : Addr) (hd : List Dt), ws = [.ref h] ∧ S h = some (.lst hd) ∧ HandL hd ∧ ∀ R hd', GoodF R → HandL hd' → Q (floorD c_Floor R) (sup S h (.lst hd'))
theorem ok__law_floor (T : Txt P w K mg base c_BadFloor c_NoNumber c_BadRow c_NoRow c_Floor c_Reader) (D : Dfn2 K mg "_law_floor" "_law_floor" s__law_floor ["_law_hand_here"]) (C_Floor_init : CalI P w K mg base "Floor" c_Floor 3 ["self", "rows"] 2 (G_Floor_init c_Floor c_BadFloor)) (C__law_draw : Cal P w K mg base "_law_draw" 1 ["_law_hand_here", "_law_many"] 2 G__law_draw) : Cal P w K mg base "_law_floor" 5 ["_law_hand_here"] 1 (G__law_floor c_Floor) := by
  refine cal_of D sc__law_floor (G__law_floor c_Floor) rfl fun f cdv A outer s H E hr => ?_
  have hu := hr.units
  refine ⟨_, (jss_cons (js_set (je_frz (jl_lst (ja_cons (je_tup (ja_cons je_str (ja_cons je_str ja_nil))) (ja_cons (je_tup (ja_cons je_str ja_nil)) (ja_cons (je_tup (ja_cons je_str (ja_cons je_str (ja_cons je_str ja_nil)))) (ja_cons (je_tup (ja_cons je_str ja_nil)) (ja_cons (je_tup (ja_cons je_str (ja_cons je_str (ja_cons je_str (ja_cons je_str ja_nil))))) (ja_cons (je_tup (ja_cons je_str (ja_cons je_str (ja_cons je_str ja_nil)))) ja_nil)))))))) (pg_name (i := 1) sc__law_floor.nd rfl (by first | exact Or.inl rfl | exact Or.inr rfl))) (jss_cons (js_set (je_op o_add (je_var (pv 1)) (je_frz (jl_lst (ja_cons (je_tup (ja_cons je_str (ja_cons je_str (ja_cons je_str ja_nil)))) (ja_cons (je_tup (ja_cons je_str ja_nil)) (ja_cons (je_tup (ja_cons je_str (ja_cons je_str (ja_cons je_str ja_nil)))) (ja_cons (je_tup (ja_cons je_str (ja_cons je_str (ja_cons je_str (ja_cons je_str ja_nil))))) (ja_cons (je_tup (ja_cons je_str (ja_cons je_str (ja_cons je_str (ja_cons je_str ja_nil))))) ja_nil)))))))) (pg_name (i := 1) sc__law_floor.nd rfl (by first | exact Or.inl rfl | exact Or.inr rfl))) (jss_one (js_ret (je_frzI (je_make C_Floor_init (hr.mono (by omega)) takes_def (by rfl) (ja_cons (je_ix o_ix (je_op o_add (je_var (pv 1)) (je_op o_mul (je_frz (jl_lst (ja_cons (je_tup (ja_cons je_str (ja_cons je_str (ja_cons je_str (ja_cons je_str (ja_cons je_str (ja_cons je_str ja_nil))))))) ja_nil))) je_int)) (je_cal C__law_draw (hr.mono (by omega)) takes_def (by rfl) (ja_cons (je_var (pv 0)) (ja_cons je_int ja_nil))) (fun _ _ => rfl)) ja_nil))))))), fun ws S Q Ex hl g => ?_⟩
  obtain ⟨h, hd, rfl, hS, hh, g0⟩ := g
  have g : ∀ R hd', GoodF R → HandL hd' → clo Q (floorD c_Floor R) (sup S h (.lst hd')) := fun m hd' a b => clo.of (g0 m hd' a b)
  clear g0
  walk_at "go"
  refine ⟨h, 13, hd, rfl, hS, hh, by decide, log_small (by decide), fun k hd k0 k1 hh => ?_⟩
  walk_at "go"
  have key : ∃ R ∈ fls, atI (fls.map fun R => Dt.tup (R.map rowS)) k = some (.tup (R.map rowS)) := by
    obtain ⟨w, e2, hm⟩ := atI_some (xs := fls.map fun R => Dt.tup (R.map rowS)) k0 (by rw [List.length_map]; exact k1)
    obtain ⟨R, hR, e⟩ := List.mem_map.mp hm
    exact ⟨R, hR, by rw [e2, e]⟩
  obtain ⟨R, hR, e2⟩ := key
  rw [show atI _ k = some (.tup (R.map rowS)) from (by rw [← e2]; rfl)]
  have hR := fls_good R hR
  walk_at "go"
  intro p hp
  have hph := ne_of_sup hp
  refine ⟨p, _, .tup (R.map rowS), rfl, rfl, hp, rows_pl R, fun xs e x hx z ez => ?_, fun R' hR' e fn fs ef => ?_, fun b hb => ?_⟩
  · injection e with e
    subst e ez
    obtain ⟨r, hr, e⟩ := List.mem_map.mp hx
    injection e with e
    rw [← e, rowS_len, hR.wl r hr]
    exact Nat.le_trans hR.w2 (by decide)
  · obtain rfl := rows_inj e
    injection ef with e1 e2 e3
    subst e2 e3
    walk_at "go"
    rw [sdel_sup hp]
    exact g R hd hR hh
  · rw [badW_good hR] at hb
    cases hb
/-! ### _law_match -/
def G__law_match : Fw := fun ws S Q _ => ∃ (h : Addr) (hd : List Dt), ws = [.ref h] ∧ S h = some (.lst hd) ∧ HandL hd ∧ ∀ (m : Nat) hd', m < 4294967296 → HandL hd' → Q (.int (m : Nat)) (sup S h (.lst hd'))
theorem ok__law_match (T : Txt P w K mg base c_BadFloor c_NoNumber c_BadRow c_NoRow c_Floor c_Reader) (D : Dfn2 K mg "_law_match" "_law_match" s__law_match ["_law_hand_here"]) (C__law_draw : Cal P w K mg base "_law_draw" 1 ["_law_hand_here", "_law_many"] 2 G__law_draw) : Cal P w K mg base "_law_match" 2 ["_law_hand_here"] 1 G__law_match := by
  refine cal_of D sc__law_match G__law_match rfl fun f cdv A outer s H E hr => ?_
  have hu := hr.units
  refine ⟨_, (jss_one (js_ret (je_ix o_ix (je_frz (jl_lst (ja_cons je_int (ja_cons je_int (ja_cons je_int (ja_cons je_int (ja_cons je_int (ja_cons je_int ja_nil)))))))) (je_cal C__law_draw (hr.mono (by omega)) takes_def (by rfl) (ja_cons (je_var (pv 0)) (ja_cons je_int ja_nil))) (fun _ _ => rfl)))), fun ws S Q Ex hl g => ?_⟩
  obtain ⟨h, hd, rfl, hS, hh, g0⟩ := g
  have g : ∀ (m : Nat) hd', m < 4294967296 → HandL hd' → clo Q (.int (m : Nat)) (sup S h (.lst hd')) := fun m hd' a b => clo.of (g0 m hd' a b)
  clear g0
  walk_at "go"
  refine ⟨h, 6, hd, rfl, hS, hh, by decide, log_small (by decide), fun k hd k0 k1 hh => ?_⟩
  walk_at "go"
  obtain ⟨w, e2, hm⟩ := atI_some k0 (xs := [Dt.int 0, .int 1, .int 127, .int 128, .int 70000, .int 4294967295]) (by show k < 6; exact k1)
  rw [show atI _ k = _ from e2]
  simp only [List.mem_cons, List.not_mem_nil, or_false] at hm
  rcases hm with rfl | rfl | rfl | rfl | rfl | rfl
  · exact g 0 hd (by decide) hh
  · exact g 1 hd (by decide) hh
  · exact g 127 hd (by decide) hh
  · exact g 128 hd (by decide) hh
  · exact g 70000 hd (by decide) hh
  · exact g 4294967295 hd (by decide) hh
/-! ### homes -/
def G_homes (c_Floor : Addr) : Fw := fun ws S Q _ => ∃ R : Rws, ws = [floorD c_Floor R] ∧ Q (.tup (lotW (ofF R 72))) S
theorem ok_homes (T : Txt P w K mg base c_BadFloor c_NoNumber c_BadRow c_NoRow c_Floor c_Reader) (D : Dfn2 K mg "homes" "homes" s_homes ["floor"])  : Cal P w K mg base "homes" 1 ["floor"] 1 (G_homes c_Floor) := by
  refine cal_of D sc_homes (G_homes c_Floor) rfl fun f cdv A outer s H E hr => ?_
  have hu := hr.units
  refine ⟨_, (jss_one (js_ret (je_fld (ns0 := ["rows", "spots", "ties", "rests", "stops"]) (i := 3) T.fd_Floor_rests (fieldAt_of (by decide +kernel)) (je_var (pv 0))))), fun ws S Q Ex hl g => ?_⟩
  obtain ⟨R, rfl, g⟩ := g
  walk_at "go"
  exact clo.of g
/-! ### _law_wide -/
def G__law_wide : Fw := fun ws S Q _ => ∃ n : Nat, ws = [.int (n : Nat)] ∧ n < 18446744073709551616 ∧ Q (.lst ((figF 10 (n : Nat)).map Dt.int)) S
theorem ok__law_wide (T : Txt P w K mg base c_BadFloor c_NoNumber c_BadRow c_NoRow c_Floor c_Reader) (D : Dfn2 K mg "_law_wide" "_law_wide" s__law_wide ["_law_number"])  : Cal P w K mg base "_law_wide" 1 ["_law_number"] 1 G__law_wide := by
  refine cal_of D sc__law_wide G__law_wide rfl fun f cdv A outer s H E hr => ?_
  have hu := hr.units
  refine ⟨_, (jss_cons (js_set (je_ref (jl_lst ja_nil)) (pg_name (i := 1) sc__law_wide.nd rfl (by first | exact Or.inl rfl | exact Or.inr rfl))) (jss_cons (js_while passes_def (jt_cmp o_gt (je_var (pv 0)) je_int (nomark _)) (jss_cons (js_drop (je_meth PySem.F.plainAttrs_list PySem.F.slot_list_append PySem.F.type_list_append m_append (je_var (pv 1)) (ja_cons (je_op o_add je_int (je_op o_mod (je_var (pv 0)) je_int)) ja_nil))) (jss_one (js_set (je_op o_fdiv (je_var (pv 0)) je_int) (pg_name (i := 0) sc__law_wide.nd rfl (by first | exact Or.inl rfl | exact Or.inr rfl)))))) (jss_one (js_ret (je_op o_add (je_var (pv 1)) (je_frz (jl_lst (ja_cons (je_var (pv 0)) ja_nil)))))))), fun ws S Q Ex hl g => ?_⟩
  obtain ⟨n, rfl, hn, g0⟩ := g
  have g : clo Q (.lst ((figF 10 (n : Nat)).map Dt.int)) S := clo.of g0
  clear g0
  walk_at "go"
  intro p hp
  walk_at "go"
  refine mWhile_rule (fun k σ S' => ∃ (F : List Int) (m : Int), σ = [some (.int m), some (.ref p)] ∧ S' = sup S p (.lst (F.map Dt.int)) ∧ figF 10 (n : Nat) = F ++ figF k m ∧ 0 ≤ m ∧ F.length + k = 10 ∧ m < 128 ^ (k + 1)) 10 ⟨[], n, rfl, rfl, rfl, by omega, rfl, by
    have : (128 : Int) ^ (10 + 1) = 151115727451828646838272 := by decide +kernel
    rw [this]
    omega⟩ ?_
  rintro k σ S' N ⟨F, m, rfl, rfl, hF, m0, hk, hm⟩ hN
  walk_at "go"
  by_cases h : 127 < m
  · rw [decide_eq_true h]
    cases k with
    | zero => exact absurd (show m < 128 from hm) (by omega)
    | succ k =>
      rw [figF_big (n := m) (k := k) (by omega)] at hF
      walk_at "go"
      refine ⟨tyW_at sup_same, ?_⟩
      walk_at "go"
      refine ⟨by rw [List.length_map]; show _ < 16777216; omega, ?_⟩
      rw [sup_sup]
      walk_at "go"
      refine hN k _ _ (Nat.lt_succ_self k) ⟨F ++ [128 + m % 128], m / 128, rfl, ?_, ?_, by omega, ?_, ?_⟩
      · rw [List.map_append]
        rfl
      · rw [hF, List.append_assoc, Int.add_comm]
        rfl
      · rw [List.length_append]
        show F.length + 1 + k = 10
        omega
      · refine Int.ediv_lt_of_lt_mul (by decide) ?_
        rw [← Int.pow_succ]
        exact hm
  · rw [decide_eq_false h]
    rw [figF_small (n := m) (k := k) (by omega)] at hF
    walk_at "go"
    rw [plv_at sup_same]
    walk_at "go"
    have := figF_len (k := 10) (n := (n : Nat))
    rw [hF, List.length_append] at this
    refine ⟨by rw [List.length_map]; show _ + 1 ≤ 16777216; simp only [List.length_cons, List.length_nil] at this; omega, ?_⟩
    walk_at "go"
    rw [hF, List.map_append] at g
    exact clo_sub g (sub_sup hp)
/-! ### _law_entry_row -/
theorem fl11 : ∀ n : Int, (figF 10 n).length ≤ 11 := fun n => figF_len
def G__law_entry_row : Fw := fun ws S Q _ => ∃ e, ws = [enD e] ∧ EnOk e ∧ Q (.lst ((enR e).map Dt.int)) S
theorem ok__law_entry_row (T : Txt P w K mg base c_BadFloor c_NoNumber c_BadRow c_NoRow c_Floor c_Reader) (D : Dfn2 K mg "_law_entry_row" "_law_entry_row" s__law_entry_row ["_law_entry"]) (C__law_wide : Cal P w K mg base "_law_wide" 1 ["_law_number"] 1 G__law_wide) : Cal P w K mg base "_law_entry_row" 2 ["_law_entry"] 1 G__law_entry_row := by
  refine cal_of D sc__law_entry_row G__law_entry_row rfl fun f cdv A outer s H E hr => ?_
  have hu := hr.units
  refine ⟨_, (jss_cons (js_if (jt_cmp (o_ne hu) (je_ix o_ix (je_var (pv 0)) je_int (fun _ _ => rfl)) je_str (nomark _)) (jss_one (js_ret (je_op o_add (je_frz (jl_lst (ja_cons (je_if (jt_cmp (o_eq hu) (je_ix o_ix (je_var (pv 0)) je_int (fun _ _ => rfl)) je_str (nomark _)) je_int je_int) ja_nil))) (je_cal C__law_wide (hr.mono (by omega)) takes_def (by rfl) (ja_cons (je_ix o_ix (je_var (pv 0)) je_int (fun _ _ => rfl)) ja_nil))))) jss_nil) (jss_cons (js_set (je_op o_add (je_frz (jl_lst (ja_cons je_int ja_nil))) (je_cal C__law_wide (hr.mono (by omega)) takes_def (by rfl) (ja_cons (je_callB (c_len) (by rfl) T.n_len (by decide +kernel) (ja_cons (je_ix o_ix (je_var (pv 0)) je_int (fun _ _ => rfl)) ja_nil)) ja_nil))) (pg_name (i := 1) sc__law_entry_row.nd rfl (by first | exact Or.inl rfl | exact Or.inr rfl))) (jss_cons (js_for passes_def rfl (ji_seq (je_ix o_ix (je_var (pv 0)) je_int (fun _ _ => rfl))) (jg_tup (n := 2) rfl (jgs_cons (jg_name (pg_name (i := 2) sc__law_entry_row.nd rfl (by first | exact Or.inl rfl | exact Or.inr rfl))) (jgs_cons (jg_name (pg_name (i := 3) sc__law_entry_row.nd rfl (by first | exact Or.inl rfl | exact Or.inr rfl))) jgs_nil))) (jss_one (js_set (je_op o_add (je_op o_add (je_var (pv 1)) (je_cal C__law_wide (hr.mono (by omega)) takes_def (by rfl) (ja_cons (je_var (pv 2)) ja_nil))) (je_cal C__law_wide (hr.mono (by omega)) takes_def (by rfl) (ja_cons (je_var (pv 3)) ja_nil))) (pg_name (i := 1) sc__law_entry_row.nd rfl (by first | exact Or.inl rfl | exact Or.inr rfl))))) (jss_one (js_ret (je_var (pv 1))))))), fun ws S Q Ex hl g => ?_⟩
  obtain ⟨e, rfl, ok, g0⟩ := g
  have g : clo Q (.lst ((enR e).map Dt.int)) S := clo.of g0
  clear g0
  cases e with
  | ord ps =>
    obtain ⟨h1, h2, h3⟩ := ok
    have l1 : (ps.map prD).length = ps.length := List.length_map ..
    walk_at "go"
    rw [l1]
    refine ⟨_, rfl, by omega, ?_⟩
    have f0 := fl11 (ps.length : Nat)
    walk_at "go"
    refine ⟨by rw [List.length_map]; show 1 + _ ≤ 16777216; omega, ?_⟩
    walk_at "go"
    refine forW_rule (fun i σ S' => ∃ (F : List Dt) (y2 y3 : Option Dt), S' = S ∧ σ = [some (enD (.ord ps)), some (.lst F), y2, y3] ∧ F = ((1 :: (figF 10 (ps.length : Nat) ++ (ps.take i).flatMap fun p => figF 10 (p.1 : Nat) ++ figF 10 (p.2 : Nat))).map Dt.int)) ⟨_, _, _, rfl, rfl, by
      rw [List.take_zero, List.flatMap_nil, List.append_nil]
      rfl⟩ ?_ ?_
    · rintro i v σ S' N ew ⟨_, y4, y5, rfl, rfl, rfl⟩ hN
      obtain ⟨q, er, rfl⟩ := map_get ew
      have hq := h3 q (List.mem_of_getElem? er)
      have hil := (List.getElem?_eq_some_iff.mp er).1
      refine ⟨trivial, ?_⟩
      walk_at "go"
      refine ⟨_, rfl, by omega, ?_⟩
      walk_at "go"
      have f1 := fl11 (q.1 : Nat)
      have f2 := fl11 (q.2 : Nat)
      have f3 : ((ps.take i).flatMap fun p => figF 10 (p.1 : Nat) ++ figF 10 (p.2 : Nat)).length ≤ 22 * (ps.take i).length := fmap_len fun e h => by
        rw [List.length_append]
        have := fl11 (e.1 : Nat)
        have := fl11 (e.2 : Nat)
        omega
      rw [List.length_take] at f3
      refine ⟨by
        rw [List.length_map, List.length_cons, List.length_append, List.length_map]
        show _ ≤ 16777216
        omega, ?_⟩
      walk_at "go"
      refine ⟨_, rfl, by omega, ?_⟩
      walk_at "go"
      refine ⟨by
        rw [List.length_append, List.length_map, List.length_cons, List.length_append, List.length_map, List.length_map]
        show _ ≤ 16777216
        omega, ?_⟩
      refine hN _ _ ⟨_, _, _, rfl, rfl, ?_⟩
      rw [← fmap_take er, ← List.map_append, ← List.map_append]
      simp only [List.cons_append, List.append_assoc]
    · rintro σ S' ⟨_, y4, y5, rfl, rfl, rfl⟩
      refine ⟨trivial, ?_⟩
      rw [List.length_map, List.take_length]
      walk_at "go"
      exact g
  | out n =>
    have ok : n < 4294967296 := ok
    walk_at "go"
    refine ⟨_, rfl, by omega, ?_⟩
    have f0 := fl11 (n : Nat)
    walk_at "go"
    refine ⟨by rw [List.length_map]; show 1 + _ ≤ 16777216; omega, ?_⟩
    walk_at "go"
    exact g
  | inn n =>
    have ok : n < 4294967296 := ok
    walk_at "go"
    refine ⟨_, rfl, by omega, ?_⟩
    have f0 := fl11 (n : Nat)
    walk_at "go"
    refine ⟨by rw [List.length_map]; show 1 + _ ≤ 16777216; omega, ?_⟩
    walk_at "go"
    exact g
/-! ### _law_letter_row -/
theorem wh_len {ns : List Nat} : (wh ns).length ≤ 11 * ns.length := fmap_len fun n _ => figF_len
theorem ltB_len {many m : Nat} {l : Lt} (ok : LtOk many l) (hm : many ≤ 1000) : (ltB m l).length ≤ 200000 := by
  have f0 : (figF 10 (m : Nat)).length ≤ 11 := figF_len
  cases l with
  | say n h d cs =>
    have f1 : (wh [n, h, d]).length ≤ 11 * 3 := wh_len
    have f2 := wh_len (ns := cs)
    have := ok.2.2.2.1
    unfold ltB
    rw [List.length_cons, List.length_append, List.length_append]
    omega
  | tell cs f es =>
    have f1 : (wh [f, es.length]).length ≤ 11 * 2 := wh_len
    have f2 := wh_len (ns := cs)
    have f3 : (es.flatMap enR).length ≤ 150 * es.length := fmap_len fun e h => enR_len (ok.2.2.2.2 e h).ok
    have := ok.1
    have := ok.2.2.2.1
    unfold ltB
    rw [List.length_cons, List.length_append, List.length_append, List.length_append]
    omega
theorem wh_take {ns : List Nat} {i n : Nat} (h : ns[i]? = some n) : wh (ns.take (i + 1)) = wh (ns.take i) ++ figF 10 (n : Nat) := by
  rw [List.take_succ, h, Option.toList_some]
  unfold wh
  rw [List.flatMap_append, List.flatMap_singleton]
def G__law_letter_row : Fw := fun ws S Q _ => ∃ (many m : Nat) (l : Lt), ws = [.int (m : Nat), ltD l] ∧ m < 4294967296 ∧ many ≤ 1000 ∧ LtOk many l ∧ Q (.tup ((ltR m l).map Dt.int)) S
theorem ok__law_letter_row (T : Txt P w K mg base c_BadFloor c_NoNumber c_BadRow c_NoRow c_Floor c_Reader) (D : Dfn2 K mg "_law_letter_row" "_law_letter_row" s__law_letter_row ["_law_match_here", "_law_letter"]) (C__law_seal : Cal P w K mg base "_law_seal" 2 ["_law_row"] 1 G__law_seal) (C__law_entry_row : Cal P w K mg base "_law_entry_row" 2 ["_law_entry"] 1 G__law_entry_row) (C__law_wide : Cal P w K mg base "_law_wide" 1 ["_law_number"] 1 G__law_wide) : Cal P w K mg base "_law_letter_row" 3 ["_law_match_here", "_law_letter"] 2 G__law_letter_row := by
  refine cal_of D sc__law_letter_row G__law_letter_row rfl fun f cdv A outer s H E hr => ?_
  have hu := hr.units
  refine ⟨_, (jss_cons (js_set (je_op o_add (je_frz (jl_lst (ja_cons (je_if (jt_cmp (o_eq hu) (je_ix o_ix (je_var (pv 1)) je_int (fun _ _ => rfl)) je_str (nomark _)) je_int je_int) ja_nil))) (je_cal C__law_wide (hr.mono (by omega)) takes_def (by rfl) (ja_cons (je_var (pv 0)) ja_nil))) (pg_name (i := 2) sc__law_letter_row.nd rfl (by first | exact Or.inl rfl | exact Or.inr rfl))) (jss_cons (js_if (jt_cmp (o_eq hu) (je_ix o_ix (je_var (pv 1)) je_int (fun _ _ => rfl)) je_str (nomark _)) (jss_cons (js_for passes_def rfl (ji_seq (je_op o_add (je_slice o_slice (je_var (pv 1)) (jo_some je_int) (jo_some je_int)) (je_ix o_ix (je_var (pv 1)) je_int (fun _ _ => rfl)))) (jg_name (pg_name (i := 3) sc__law_letter_row.nd rfl (by first | exact Or.inl rfl | exact Or.inr rfl))) (jss_one (js_set (je_op o_add (je_var (pv 2)) (je_cal C__law_wide (hr.mono (by omega)) takes_def (by rfl) (ja_cons (je_var (pv 3)) ja_nil))) (pg_name (i := 2) sc__law_letter_row.nd rfl (by first | exact Or.inl rfl | exact Or.inr rfl))))) (jss_one (js_ret (je_cal C__law_seal (hr.mono (by omega)) takes_def (by rfl) (ja_cons (je_var (pv 2)) ja_nil))))) jss_nil) (jss_cons (js_for passes_def rfl (ji_seq (je_op o_add (je_ix o_ix (je_var (pv 1)) je_int (fun _ _ => rfl)) (je_tup (ja_cons (je_ix o_ix (je_var (pv 1)) je_int (fun _ _ => rfl)) (ja_cons (je_callB (c_len) (by rfl) T.n_len (by decide +kernel) (ja_cons (je_ix o_ix (je_var (pv 1)) je_int (fun _ _ => rfl)) ja_nil)) ja_nil))))) (jg_name (pg_name (i := 3) sc__law_letter_row.nd rfl (by first | exact Or.inl rfl | exact Or.inr rfl))) (jss_one (js_set (je_op o_add (je_var (pv 2)) (je_cal C__law_wide (hr.mono (by omega)) takes_def (by rfl) (ja_cons (je_var (pv 3)) ja_nil))) (pg_name (i := 2) sc__law_letter_row.nd rfl (by first | exact Or.inl rfl | exact Or.inr rfl))))) (jss_cons (js_for passes_def rfl (ji_seq (je_ix o_ix (je_var (pv 1)) je_int (fun _ _ => rfl))) (jg_name (pg_name (i := 4) sc__law_letter_row.nd rfl (by first | exact Or.inl rfl | exact Or.inr rfl))) (jss_one (js_set (je_op o_add (je_var (pv 2)) (je_cal C__law_entry_row (hr.mono (by omega)) takes_def (by rfl) (ja_cons (je_var (pv 4)) ja_nil))) (pg_name (i := 2) sc__law_letter_row.nd rfl (by first | exact Or.inl rfl | exact Or.inr rfl))))) (jss_one (js_ret (je_cal C__law_seal (hr.mono (by omega)) takes_def (by rfl) (ja_cons (je_var (pv 2)) ja_nil)))))))), fun ws S Q Ex hl g => ?_⟩
  obtain ⟨many, m, l, rfl, hm, hm2, ok, g0⟩ := g
  have g : clo Q (.tup ((ltR m l).map Dt.int)) S := clo.of g0
  clear g0
  have hB := ltB_len (m := m) ok hm2
  have f0 := fl11 (m : Nat)
  cases l with
  | say n h d cs =>
    obtain ⟨o1, o2, o3, o4, o5, o6⟩ := ok
    have lc : (lotW cs).length = cs.length := List.length_map ..
    walk_at "go"
    refine ⟨_, rfl, by omega, ?_⟩
    walk_at "go"
    refine ⟨by rw [List.length_map]; show 1 + _ ≤ 16777216; omega, ?_⟩
    walk_at "go"
    refine ⟨by rw [lc]; show 3 + _ ≤ 16777216; omega, ?_⟩
    refine forW_rule (fun i σ S' => ∃ (F : List Dt) (y3 y4 : Option Dt), S' = S ∧ σ = [some (.int (m : Nat)), some (ltD (.say n h d cs)), some (.lst F), y3, y4] ∧ F = ((1 :: (figF 10 (m : Nat) ++ wh ((n :: h :: d :: cs).take i))).map Dt.int)) ⟨_, _, _, rfl, rfl, by
      rw [List.take_zero, show wh [] = [] from rfl, List.append_nil]
      rfl⟩ ?_ ?_
    · rintro i v σ S' N ew ⟨_, y3, y4, rfl, rfl, rfl⟩ hN
      have ew : (lotW (n :: h :: d :: cs))[i]? = some v := ew
      obtain ⟨q, er, rfl⟩ := map_get ew
      have hq : q < 100000 := by
        have := List.mem_of_getElem? er
        simp only [List.mem_cons] at this
        rcases this with rfl | rfl | rfl | hc
        · omega
        · exact o2
        · exact o3
        · exact o5 q hc
      refine ⟨trivial, ?_⟩
      walk_at "go"
      refine ⟨q, rfl, by omega, ?_⟩
      walk_at "go"
      have f1 := fl11 (q : Nat)
      have f2 := wh_len (ns := (n :: h :: d :: cs).take i)
      have f3 : ((n :: h :: d :: cs).take i).length ≤ 1003 := by
        rw [List.length_take]
        simp only [List.length_cons]
        omega
      refine ⟨by
        rw [List.length_map, List.length_cons, List.length_append, List.length_map]
        show _ ≤ 16777216
        omega, ?_⟩
      refine hN _ _ ⟨_, _, _, rfl, rfl, ?_⟩
      rw [wh_take er, ← List.map_append]
      simp only [List.cons_append, List.append_assoc]
    · rintro σ S' ⟨_, y3, y4, rfl, rfl, rfl⟩
      refine ⟨trivial, ?_⟩
      rw [show (cutW [Dt.str "say", .int (n : Nat), .int (h : Nat), .int (d : Nat), .tup (lotW cs)] (some 1) (some 4) ++ lotW cs) = lotW (n :: h :: d :: cs) from rfl, show (lotW (n :: h :: d :: cs)).length = (n :: h :: d :: cs).length from List.length_map .., List.take_length]
      walk_at "go"
      have e : 1 :: (figF 10 (m : Nat) ++ wh (n :: h :: d :: cs)) = ltB m (.say n h d cs) := by
        unfold ltB wh
        simp only [List.flatMap_cons, List.flatMap_nil, List.append_assoc, List.append_nil]
      rw [e]
      exact ⟨_, .inl rfl, by omega, g⟩
  | tell cs f es =>
    obtain ⟨o1, o2, o3, o4, o5⟩ := ok
    have lc : (lotW cs).length = cs.length := List.length_map ..
    walk_at "go"
    refine ⟨_, rfl, by omega, ?_⟩
    walk_at "go"
    refine ⟨by rw [List.length_map]; show 1 + _ ≤ 16777216; omega, ?_⟩
    walk_at "go"
    refine ⟨by rw [lc]; show _ + 2 ≤ 16777216; omega, ?_⟩
    have lw : lotW cs ++ [Dt.int (f : Nat), Dt.int (es.length : Nat)] = lotW (cs ++ [f, es.length]) := by
      unfold lotW
      rw [List.map_append]
      rfl
    have w2 : (wh (cs ++ [f, es.length])).length ≤ 11 * (cs ++ [f, es.length]).length := wh_len
    have e2 : (cs ++ [f, es.length]).length = many + 2 := by
      rw [List.length_append, o1]
      rfl
    refine forW_rule (fun i σ S' => ∃ (F : List Dt) (y3 y4 : Option Dt), S' = S ∧ σ = [some (.int (m : Nat)), some (ltD (.tell cs f es)), some (.lst F), y3, y4] ∧ F = ((2 :: (figF 10 (m : Nat) ++ wh ((cs ++ [f, es.length]).take i))).map Dt.int)) ⟨_, _, _, rfl, rfl, by
      rw [List.take_zero, show wh [] = [] from rfl, List.append_nil]
      rfl⟩ ?_ ?_
    · rintro i v σ S' N ew ⟨_, y3, y4, rfl, rfl, rfl⟩ hN
      have ew : (lotW (cs ++ [f, es.length]))[i]? = some v := by
        rw [← lw]
        rw [List.length_map] at ew
        exact ew
      obtain ⟨q, er, rfl⟩ := map_get ew
      have hq : q < 100000 := by
        have := List.mem_of_getElem? er
        simp only [List.mem_append, List.mem_cons, List.not_mem_nil, or_false] at this
        rcases this with hc | rfl | rfl
        · exact o2 q hc
        · exact o3
        · omega
      refine ⟨trivial, ?_⟩
      walk_at "go"
      refine ⟨q, rfl, by omega, ?_⟩
      walk_at "go"
      have f1 := fl11 (q : Nat)
      have f2 := wh_len (ns := (cs ++ [f, es.length]).take i)
      have f3 : ((cs ++ [f, es.length]).take i).length ≤ 1002 := by
        rw [List.length_take]
        omega
      refine ⟨by
        rw [List.length_map, List.length_cons, List.length_append, List.length_map]
        show _ ≤ 16777216
        omega, ?_⟩
      refine hN _ _ ⟨_, _, _, rfl, rfl, ?_⟩
      rw [wh_take er, ← List.map_append]
      simp only [List.cons_append, List.append_assoc]
    · rintro σ S' ⟨_, y3, y4, rfl, rfl, rfl⟩
      refine ⟨trivial, ?_⟩
      rw [List.length_map, lw, show (lotW (cs ++ [f, es.length])).length = (cs ++ [f, es.length]).length from List.length_map .., List.take_length]
      walk_at "go"
      refine forW_rule (fun i σ S2 => ∃ (F : List Dt) (y3 y4 : Option Dt), S2 = S' ∧ σ = [some (.int (m : Nat)), some (ltD (.tell cs f es)), some (.lst F), y3, y4] ∧ F = ((2 :: (figF 10 (m : Nat) ++ (wh (cs ++ [f, es.length]) ++ (es.take i).flatMap enR))).map Dt.int)) ⟨_, _, _, rfl, rfl, by
        rw [List.take_zero, List.flatMap_nil, List.append_nil]⟩ ?_ ?_
      · rintro i v σ S' N ew ⟨_, y3, y4, rfl, rfl, rfl⟩ hN
        obtain ⟨q, er, rfl⟩ := map_get ew
        have hq := (o5 q (List.mem_of_getElem? er)).ok
        refine ⟨trivial, ?_⟩
        walk_at "go"
        refine ⟨q, rfl, hq, ?_⟩
        walk_at "go"
        have f1 := enR_len hq
        have f2 : ((es.take i).flatMap enR).length ≤ 150 * (es.take i).length := fmap_len fun e h => enR_len (o5 e (List.mem_of_mem_take h)).ok
        rw [List.length_take] at f2
        refine ⟨by
          rw [List.length_map, List.length_cons, List.length_append, List.length_append, List.length_map]
          show _ ≤ 16777216
          omega, ?_⟩
        refine hN _ _ ⟨_, _, _, rfl, rfl, ?_⟩
        rw [← fmap_take er, ← List.map_append]
        simp only [List.cons_append, List.append_assoc]
      · rintro σ S' ⟨_, y3, y4, rfl, rfl, rfl⟩
        refine ⟨trivial, ?_⟩
        rw [List.length_map, List.take_length]
        walk_at "go"
        have e : 2 :: (figF 10 (m : Nat) ++ (wh (cs ++ [f, es.length]) ++ es.flatMap enR)) = ltB m (.tell cs f es) := by
          unfold ltB wh
          simp only [List.flatMap_append, List.append_assoc]
        rw [e]
        exact ⟨_, .inl rfl, by omega, g⟩
/-! ### _law_is -/
/-- plain things without dicts, of no great breadth -/
def fineD : Dt → Bool
  | .non | .bl _ | .int _ | .str _ => true
  | .tup ws => decide (ws.length ≤ 100000) && fineL ws
  | .lst ws => decide (ws.length ≤ 100000) && fineL ws
  | _ => false
where fineL : List Dt → Bool
  | [] => true
  | w :: ws => fineD w && fineL ws
theorem fineL_at : ∀ {ws : List Dt}, fineD.fineL ws = true → ∀ x ∈ ws, fineD x = true ∧ dep x ≤ dep.depL ws
  | w :: ws, h, x, hx => by
    unfold fineD.fineL at h
    rw [Bool.and_eq_true] at h
    unfold dep.depL
    rcases List.mem_cons.mp hx with rfl | hx
    · exact ⟨h.1, Nat.le_max_left _ _⟩
    · have := fineL_at h.2 x hx
      exact ⟨this.1, Nat.le_trans this.2 (Nat.le_max_right _ _)⟩
theorem zip_self {α : Type} (xs : List α) : xs.zip xs = xs.map fun x => (x, x) := by
  induction xs with
  | nil => rfl
  | cons x xs ih => rw [List.zip_cons_cons, ih, List.map_cons]
def G__law_is (d : Nat) : Fw := fun ws S Q _ => ∃ w, ws = [w, w] ∧ fineD w = true ∧ dep w < d ∧ Q (.bl true) S
theorem ok__law_is (T : Txt P w K mg base c_BadFloor c_NoNumber c_BadRow c_NoRow c_Floor c_Reader) (D : Dfn2 K mg "_law_is" "_law_is" s__law_is ["_law_told", "_law_due"])  : ∀ d : Nat, Cal P w K mg base "_law_is" (d + 1) ["_law_told", "_law_due"] 2 (G__law_is d)
  | 0 => (cal_false D).imp fun ws S Q Ex hl g => by
      obtain ⟨w, _, _, h, _⟩ := g
      exact absurd h (Nat.not_lt_zero _)
  | d + 1 => by
    have C__law_is := ok__law_is T D  d
    refine cal_of D sc__law_is (G__law_is (d + 1)) rfl fun f cdv A outer s H E hr => ?_
    have hu := hr.units
    refine ⟨_, (jss_cons (js_if (jt_val (je_callB (c_isi) (by rfl) T.n_isinstance (by decide +kernel) (ja_cons (je_var (pv 1)) (ja_cons (je_tup (ja_cons (je_bty (T := "tuple") (by rfl) T.n_tuple (by decide +kernel)) (ja_cons (je_bty (T := "list") (by rfl) T.n_list (by decide +kernel)) ja_nil))) ja_nil)))) (jss_cons (js_if (jt_w (jw_or (jt_cmp (o_ne hu) (je_callB (c_isi) (by rfl) T.n_isinstance (by decide +kernel) (ja_cons (je_var (pv 0)) (ja_cons (je_bty (T := "tuple") (by rfl) T.n_tuple (by decide +kernel)) ja_nil))) (je_callB (c_isi) (by rfl) T.n_isinstance (by decide +kernel) (ja_cons (je_var (pv 1)) (ja_cons (je_bty (T := "tuple") (by rfl) T.n_tuple (by decide +kernel)) ja_nil))) (nomark _)) (jw_one (jt_not (jt_val (je_callB (c_isi) (by rfl) T.n_isinstance (by decide +kernel) (ja_cons (je_var (pv 0)) (ja_cons (je_tup (ja_cons (je_bty (T := "tuple") (by rfl) T.n_tuple (by decide +kernel)) (ja_cons (je_bty (T := "list") (by rfl) T.n_list (by decide +kernel)) ja_nil))) ja_nil)))))))) (jss_one (js_ret je_bl)) jss_nil) (jss_one (js_ret (je_and (je_cmp (o_eq hu) (je_callB (c_len) (by rfl) T.n_len (by decide +kernel) (ja_cons (je_var (pv 0)) ja_nil)) (je_callB (c_len) (by rfl) T.n_len (by decide +kernel) (ja_cons (je_var (pv 1)) ja_nil)) (nomark _)) (je_one (je_callB (c_all rfl) (by rfl) T.n_all (by decide +kernel) (ja_cons (je_frz (jl_comp (own := [("_law_one", 2), ("_law_two", 3)]) rfl sc__law_is.nd (ji_zipK (by rfl) T.n_zip (ja_cons (je_var (pv 0)) (ja_cons (je_var (pv 1)) ja_nil))) (blkOk_by (N := N__law_is) (sc := defScope s__law_is) (by decide +kernel)) (binds_pair (by decide)) (fun _ _ _ _ _ => (pg_tup rfl (pgs_cons (pg_name (i := 2) sc__law_is.nd rfl (by first | exact Or.inl rfl | exact Or.inr rfl)) (pgs_cons (pg_name (i := 3) sc__law_is.nd rfl (by first | exact Or.inl rfl | exact Or.inr rfl)) pgs_nil)))) (fun _ _ _ _ _ => jts_nil) (fun _ _ _ _ _ => (je_cal C__law_is (hr.mono (by omega)) takes0 (by rfl) (ja_cons (je_var (pv 2)) (ja_cons (je_var (pv 3)) ja_nil)))))) ja_nil))))))) jss_nil) (jss_one (js_ret (je_and (je_cmp (o_eq hu) (je_callB (c_isi) (by rfl) T.n_isinstance (by decide +kernel) (ja_cons (je_var (pv 0)) (ja_cons (je_bty (T := "bool") (by rfl) T.n_bool (by decide +kernel)) ja_nil))) (je_callB (c_isi) (by rfl) T.n_isinstance (by decide +kernel) (ja_cons (je_var (pv 1)) (ja_cons (je_bty (T := "bool") (by rfl) T.n_bool (by decide +kernel)) ja_nil))) (nomark _)) (je_one (je_cmp (o_eq hu) (je_var (pv 0)) (je_var (pv 1)) (nomark _))))))), fun ws S Q Ex hl g => ?_⟩
    obtain ⟨w, rfl, hw, hd, g⟩ := g
    have g : clo Q (.bl true) S := clo.of g
    cases w with
    | non =>
      walk_at "go"
      refine ⟨["tuple", "list"], [false, false], rfl, by simp [kb_NoneType_tuple, kb_NoneType_list], ?_⟩
      walk_at "go"
      exact g
    | bl b =>
      walk_at "go"
      refine ⟨["tuple", "list"], [false, false], rfl, by simp [kb_bool_tuple, kb_bool_list], ?_⟩
      walk_at "go"
      cases b <;> exact g
    | int i =>
      walk_at "go"
      refine ⟨["tuple", "list"], [false, false], rfl, by simp [kb_int_tuple, kb_int_list], ?_⟩
      walk_at "go"
      rw [decide_eq_true rfl]
      exact g
    | str x =>
      walk_at "go"
      refine ⟨["tuple", "list"], [false, false], rfl, by simp [kb_str_tuple, kb_str_list], ?_⟩
      walk_at "go"
      rw [decide_eq_true rfl]
      exact g
    | tup xs =>
      have hw : xs.length ≤ 100000 ∧ fineD.fineL xs = true := by
        have hw : (decide (xs.length ≤ 100000) && fineD.fineL xs) = true := hw
        rwa [Bool.and_eq_true, decide_eq_true_iff] at hw
      have hd : 1 + dep.depL xs < d + 1 := hd
      walk_at "go"
      refine ⟨["tuple", "list"], [true, false], rfl, by simp [kb_tuple_tuple, kb_tuple_list], ?_⟩
      walk_at "go"
      refine ⟨["tuple", "list"], [true, false], rfl, by simp [kb_tuple_tuple, kb_tuple_list], ?_⟩
      walk_at "go"
      rw [decide_eq_true rfl]
      walk_at "go"
      have hz := zipW_map id id xs xs
      rw [List.map_id, zip_self, List.map_map] at hz
      rw [hz]
      refine comp_all (fun x : Dt => .tup [x, x]) (fun _ => .bl true) xs ⟨trivial, trivial⟩ (fun x hx => ?_) (by show _ ≤ 16777216; omega) ?_
      · have h1 := fineL_at hw.2 x hx
        refine ⟨_, rfl, fun k q => ?_⟩
        walk_at "go"
        exact ⟨x, rfl, h1.1, by omega, q⟩
      · walk_at "go"
        refine ⟨xs.map fun _ => true, by rw [List.map_map]; rfl, ?_⟩
        rw [show (xs.map fun _ => true).all id = true from List.all_eq_true.mpr fun b hb => by obtain ⟨_, _, rfl⟩ := List.mem_map.mp hb; rfl]
        exact g
    | lst xs =>
      have hw : xs.length ≤ 100000 ∧ fineD.fineL xs = true := by
        have hw : (decide (xs.length ≤ 100000) && fineD.fineL xs) = true := hw
        rwa [Bool.and_eq_true, decide_eq_true_iff] at hw
      have hd : 1 + dep.depL xs < d + 1 := hd
      walk_at "go"
      refine ⟨["tuple", "list"], [false, true], rfl, by simp [kb_list_tuple, kb_list_list], ?_⟩
      walk_at "go"
      refine ⟨["tuple", "list"], [false, true], rfl, by simp [kb_list_tuple, kb_list_list], ?_⟩
      walk_at "go"
      rw [decide_eq_true rfl]
      walk_at "go"
      have hz := zipW_map id id xs xs
      rw [List.map_id, zip_self, List.map_map] at hz
      rw [hz]
      refine comp_all (fun x : Dt => .tup [x, x]) (fun _ => .bl true) xs ⟨trivial, trivial⟩ (fun x hx => ?_) (by show _ ≤ 16777216; omega) ?_
      · have h1 := fineL_at hw.2 x hx
        refine ⟨_, rfl, fun k q => ?_⟩
        walk_at "go"
        exact ⟨x, rfl, h1.1, by omega, q⟩
      · walk_at "go"
        refine ⟨xs.map fun _ => true, by rw [List.map_map]; rfl, ?_⟩
        rw [show (xs.map fun _ => true).all id = true from List.all_eq_true.mpr fun b hb => by obtain ⟨_, _, rfl⟩ := List.mem_map.mp hb; rfl]
        exact g
    | _ => cases hw
/-! ### is_integer -/
def G_is_integer : Fw := fun ws S Q _ => ∃ w, ws = [w] ∧ kn S w ∧ Q (.bl (isI w)) S
theorem ok_is_integer (T : Txt P w K mg base c_BadFloor c_NoNumber c_BadRow c_NoRow c_Floor c_Reader) (D : Dfn2 K mg "is_integer" "is_integer" s_is_integer ["thing"])  : Cal P w K mg base "is_integer" 1 ["thing"] 1 G_is_integer := by
  refine cal_of D sc_is_integer G_is_integer rfl fun f cdv A outer s H E hr => ?_
  have hu := hr.units
  refine ⟨_, (jss_one (js_ret (je_and (je_callB (c_isi) (by rfl) T.n_isinstance (by decide +kernel) (ja_cons (je_var (pv 0)) (ja_cons (je_bty (T := "int") (by rfl) T.n_int (by decide +kernel)) ja_nil))) (je_one (je_not (je_callB (c_isi) (by rfl) T.n_isinstance (by decide +kernel) (ja_cons (je_var (pv 0)) (ja_cons (je_bty (T := "bool") (by rfl) T.n_bool (by decide +kernel)) ja_nil)))))))), fun ws S Q Ex hl g => ?_⟩
  obtain ⟨w, rfl, ⟨t, kt⟩, g⟩ := g
  walk_at "dn"
  simp only [kt, kI kt, kB kt]
  have e : clo Q (.bl (isI w)) S := clo.of g
  cases w <;> simpa [isI, isB] using e
/-! ### is_within -/
def G_is_within : Fw := fun ws S Q _ => ∃ w lo hi, ws = [w, .int lo, .int hi] ∧ kn S w ∧ Q (.bl (inW w lo hi)) S
theorem ok_is_within (T : Txt P w K mg base c_BadFloor c_NoNumber c_BadRow c_NoRow c_Floor c_Reader) (D : Dfn2 K mg "is_within" "is_within" s_is_within ["thing", "least", "most"]) (C_is_integer : Cal P w K mg base "is_integer" 1 ["thing"] 1 G_is_integer) : Cal P w K mg base "is_within" 2 ["thing", "least", "most"] 3 G_is_within := by
  refine cal_of D sc_is_within G_is_within rfl fun f cdv A outer s H E hr => ?_
  have hu := hr.units
  refine ⟨_, (jss_one (js_ret (je_and (je_cal C_is_integer (hr.mono (by omega)) takes_def (by rfl) (ja_cons (je_var (pv 0)) ja_nil)) (je_one (je_chain o_le o_le (je_var (pv 1)) (je_var (pv 0)) (je_var (pv 2))))))), fun ws S Q Ex hl g => ?_⟩
  obtain ⟨w, lo, hi, rfl, kt, g⟩ := g
  walk_at "dn"
  refine ⟨w, rfl, kt, ?_⟩
  have e : clo Q (.bl (inW w lo hi)) S := clo.of g
  cases w with
  | int i => by_cases h : lo ≤ i <;> simpa [isI, inW, h] using e
  | _ => exact e
/-! ### check_within -/
def G_check_within (c_NoNumber : Addr) : Fw := fun ws S Q Ex => ∃ w lo hi, ws = [w, .int lo, .int hi] ∧ kn S w ∧ (inW w lo hi = true → Q .non S) ∧ (inW w lo hi = false → Ex ⟨.ref c_NoNumber, none⟩ S)
theorem ok_check_within (T : Txt P w K mg base c_BadFloor c_NoNumber c_BadRow c_NoRow c_Floor c_Reader) (D : Dfn2 K mg "check_within" "check_within" s_check_within ["thing", "least", "most"]) (C_is_within : Cal P w K mg base "is_within" 2 ["thing", "least", "most"] 3 G_is_within) : Cal P w K mg base "check_within" 3 ["thing", "least", "most"] 3 (G_check_within c_NoNumber) := by
  refine cal_of D sc_check_within (G_check_within c_NoNumber) rfl fun f cdv A outer s H E hr => ?_
  have hu := hr.units
  refine ⟨_, (jss_one (js_if (jt_not (jt_val (je_cal C_is_within (hr.mono (by omega)) takes_def (by rfl) (ja_cons (je_var (pv 0)) (ja_cons (je_var (pv 1)) (ja_cons (je_var (pv 2)) ja_nil)))))) (jss_one (js_raise rfl takes_def (jr_exc0 T.x_NoNumber (by rfl)))) jss_nil)), fun ws S Q Ex hl g => ?_⟩
  obtain ⟨w, lo, hi, rfl, kw, g1, g2⟩ := g
  walk_at "go"
  refine ⟨w, lo, hi, rfl, kw, ?_⟩
  cases h : inW w lo hi with
  | true => exact clo.of (g1 h)
  | false => exact clX.of (g2 h)
/-! ### check_match -/
def G_check_match (c_NoNumber : Addr) : Fw := fun ws S Q Ex => ∃ w, ws = [w] ∧ kn S w ∧ (inW w 0 4294967295 = true → Q .non S) ∧ (inW w 0 4294967295 = false → Ex ⟨.ref c_NoNumber, none⟩ S)
theorem ok_check_match (T : Txt P w K mg base c_BadFloor c_NoNumber c_BadRow c_NoRow c_Floor c_Reader) (D : Dfn2 K mg "check_match" "check_match" s_check_match ["match"]) (C_check_within : Cal P w K mg base "check_within" 3 ["thing", "least", "most"] 3 (G_check_within c_NoNumber)) : Cal P w K mg base "check_match" 4 ["match"] 1 (G_check_match c_NoNumber) := by
  refine cal_of D sc_check_match (G_check_match c_NoNumber) rfl fun f cdv A outer s H E hr => ?_
  have hu := hr.units
  refine ⟨_, (jss_one (js_drop (je_cal C_check_within (hr.mono (by omega)) takes_def (by rfl) (ja_cons (je_var (pv 0)) (ja_cons je_int (ja_cons (je_op o_sub (je_gi (by rfl) T.g_MOST_MATCH) je_int) ja_nil)))))), fun ws S Q Ex hl g => ?_⟩
  obtain ⟨w, rfl, kw, g1, g2⟩ := g
  walk_at "go"
  exact ⟨w, _, _, rfl, kw, fun h => clo.of (g1 h), fun h => clX.of (g2 h)⟩
/-! ### is_below -/
def G_is_below : Fw := fun ws S Q _ => ∃ w n, ws = [w, .int n] ∧ kn S w ∧ Q (.bl (inW w 0 (n - 1))) S
theorem ok_is_below (T : Txt P w K mg base c_BadFloor c_NoNumber c_BadRow c_NoRow c_Floor c_Reader) (D : Dfn2 K mg "is_below" "is_below" s_is_below ["thing", "many"]) (C_is_within : Cal P w K mg base "is_within" 2 ["thing", "least", "most"] 3 G_is_within) : Cal P w K mg base "is_below" 3 ["thing", "many"] 2 G_is_below := by
  refine cal_of D sc_is_below G_is_below rfl fun f cdv A outer s H E hr => ?_
  have hu := hr.units
  refine ⟨_, (jss_one (js_ret (je_cal C_is_within (hr.mono (by omega)) takes_def (by rfl) (ja_cons (je_var (pv 0)) (ja_cons je_int (ja_cons (je_op o_sub (je_var (pv 1)) je_int) ja_nil)))))), fun ws S Q Ex hl g => ?_⟩
  obtain ⟨w, n, rfl, kt, g⟩ := g
  walk_at "dn"
  exact ⟨w, 0, n - 1, rfl, kt, clo.of g⟩
/-! ### is_row_rows -/
def G_is_row_rows : Fw := fun ws S Q _ => ∃ w, ws = [w] ∧ pl w = true ∧ Q (.bl (rowW w)) S
theorem ok_is_row_rows (T : Txt P w K mg base c_BadFloor c_NoNumber c_BadRow c_NoRow c_Floor c_Reader) (D : Dfn2 K mg "is_row_rows" "is_row" s_is_row_rows ["thing"]) (C_is_below : Cal P w K mg base "is_below" 3 ["thing", "many"] 2 G_is_below) : Cal P w K mg base "is_row_rows" 4 ["thing"] 1 G_is_row_rows := by
  refine cal_of D sc_is_row_rows G_is_row_rows rfl fun f cdv A outer s H E hr => ?_
  have hu := hr.units
  refine ⟨_, (jss_one (js_ret (je_and (je_callB (c_isi) (by rfl) T.n_isinstance (by decide +kernel) (ja_cons (je_var (pv 0)) (ja_cons (je_bty (T := "tuple") (by rfl) T.n_tuple (by decide +kernel)) ja_nil))) (je_and (je_cmp o_le (je_callB (c_len) (by rfl) T.n_len (by decide +kernel) (ja_cons (je_var (pv 0)) ja_nil)) (je_gi (by rfl) T.g_MOST_BYTES) (nomark _)) (je_one (je_callB (c_all rfl) (by rfl) T.n_all (by decide +kernel) (ja_cons (je_frz (jl_comp (own := [("item", 1)]) rfl sc_is_row_rows.nd (ji_seq (je_var (pv 0))) (blkOk_by (N := N_is_row_rows) (sc := defScope s_is_row_rows) (by decide +kernel)) binds_name (fun _ _ _ _ _ => (pg_name (i := 1) sc_is_row_rows.nd rfl (by first | exact Or.inl rfl | exact Or.inr rfl))) (fun _ _ _ _ _ => jts_nil) (fun _ _ _ _ _ => (je_cal C_is_below (hr.mono (by omega)) takes0 (by rfl) (ja_cons (je_var (pv 1)) (ja_cons (je_gi (by rfl) T.g_BYTE) ja_nil)))))) ja_nil))))))), fun ws S Q Ex hl g => ?_⟩
  obtain ⟨w, rfl, kw, g⟩ := g
  walk_at "dn"
  obtain ⟨t, kt⟩ := kn_pl (S := S) kw
  simp only [kt, kT kt]
  have e : clo Q (.bl (rowW w)) S := clo.of g
  cases w with
  | tup xs =>
    by_cases h : xs.length ≤ 300000
    · have h' : (xs.length : Int) ≤ 300000 := by omega
      simp only [isT, h', decide_true]
      refine comp_map (fun x => .bl (inW x 0 255)) xs [] (fun x hx => ?_) (by show 0 + xs.length ≤ 16777216; omega) ?_
      · refine ⟨_, rfl, fun k hk => ?_⟩
        walk_at "dn"
        exact ⟨x, 256, rfl, kn_pl (pl_tup kw x hx), hk⟩
      · refine ⟨xs.map (inW · 0 255), by simp, ?_⟩
        have e2 : (xs.map (inW · 0 255)).all id = rowW (.tup xs) := by simp [rowW, h]
        rw [e2]
        exact e
    · have h' : ¬ (xs.length : Int) ≤ 300000 := by omega
      simpa [isT, h', h, rowW] using e
  | kt _ => cases kw
  | _ => exact e
/-! ### marked -/
def G_marked : Fw := fun ws S Q _ => ∃ m bs, ws = [.int m, .tup (bs.map Dt.int)] ∧ Q (.int (mkF m bs)) S
theorem ok_marked (T : Txt P w K mg base c_BadFloor c_NoNumber c_BadRow c_NoRow c_Floor c_Reader) (D : Dfn2 K mg "marked" "marked" s_marked ["mark", "row"])  : Cal P w K mg base "marked" 1 ["mark", "row"] 2 G_marked := by
  refine cal_of D sc_marked G_marked rfl fun f cdv A outer s H E hr => ?_
  have hu := hr.units
  refine ⟨_, (jss_cons (js_set (je_var (pv 0)) (pg_name (i := 2) sc_marked.nd rfl (by first | exact Or.inl rfl | exact Or.inr rfl))) (jss_cons (js_for passes_def rfl (ji_seq (je_var (pv 1))) (jg_name (pg_name (i := 3) sc_marked.nd rfl (by first | exact Or.inl rfl | exact Or.inr rfl))) (jss_one (js_set (je_op o_mod (je_op o_add (je_op o_add (je_op o_mul (je_var (pv 2)) (je_gi (by rfl) T.g_MARK_STEP)) (je_var (pv 3))) je_int) (je_gi (by rfl) T.g_MARK_PRIME)) (pg_name (i := 2) sc_marked.nd rfl (by first | exact Or.inl rfl | exact Or.inr rfl))))) (jss_one (js_ret (je_var (pv 2)))))), fun ws S Q Ex hl g => ?_⟩
  obtain ⟨m, bs, rfl, g⟩ := g
  walk_at "dn"
  refine forW_rule (fun i σ S' => ∃ y, S' = S ∧ σ = [some (.int m), some (.tup (bs.map Dt.int)), some (.int (mkF m (bs.take i))), y]) ⟨_, rfl, rfl⟩ ?_ ?_
  · rintro i w σ S' N ew ⟨y, rfl, rfl⟩ hN
    rw [List.getElem?_map] at ew
    cases eb : bs[i]? with
    | none => rw [eb] at ew; cases ew
    | some b =>
      rw [eb] at ew
      cases ew
      walk_at "dn"
      refine ⟨.inr (.inl (by decide)), by decide, ?_⟩
      rw [mkF_take eb]
      exact hN _ _ ⟨_, rfl, rfl⟩
  · rintro σ S' ⟨y, rfl, rfl⟩
    walk_at "dn"
    rw [List.length_map, List.take_length]
    exact clo.of g
/-! ### mark_of -/
def G_mark_of : Fw := fun ws S Q _ => ∃ bs : List Int, ws = [.tup (bs.map Dt.int)] ∧ Q (.int (mkF 1 bs)) S
theorem ok_mark_of (T : Txt P w K mg base c_BadFloor c_NoNumber c_BadRow c_NoRow c_Floor c_Reader) (D : Dfn2 K mg "mark_of" "mark_of" s_mark_of ["row"]) (C_marked : Cal P w K mg base "marked" 1 ["mark", "row"] 2 G_marked) : Cal P w K mg base "mark_of" 2 ["row"] 1 G_mark_of := by
  refine cal_of D sc_mark_of G_mark_of rfl fun f cdv A outer s H E hr => ?_
  have hu := hr.units
  refine ⟨_, (jss_one (js_ret (je_cal C_marked (hr.mono (by omega)) takes_def (by rfl) (ja_cons (je_gi (by rfl) T.g_MARK_BEGIN) (ja_cons (je_var (pv 0)) ja_nil))))), fun ws S Q Ex hl g => ?_⟩
  obtain ⟨bs, rfl, g⟩ := g
  walk_at "dn"
  exact ⟨1, bs, rfl, clo.of g⟩
/-! ### seal_of -/
def G_seal_of : Fw := fun ws S Q _ => ∃ bs : List Int, ws = [.tup (bs.map Dt.int)] ∧ Q (.tup ((sealF bs).map Dt.int)) S
theorem ok_seal_of (T : Txt P w K mg base c_BadFloor c_NoNumber c_BadRow c_NoRow c_Floor c_Reader) (D : Dfn2 K mg "seal_of" "seal_of" s_seal_of ["row"]) (C_mark_of : Cal P w K mg base "mark_of" 2 ["row"] 1 G_mark_of) : Cal P w K mg base "seal_of" 3 ["row"] 1 G_seal_of := by
  refine cal_of D sc_seal_of G_seal_of rfl fun f cdv A outer s H E hr => ?_
  have hu := hr.units
  refine ⟨_, (jss_cons (js_set (je_op o_mod (je_cal C_mark_of (hr.mono (by omega)) takes_def (by rfl) (ja_cons (je_var (pv 0)) ja_nil)) (je_gi (by rfl) T.g_SEAL_BOUND)) (pg_name (i := 1) sc_seal_of.nd rfl (by first | exact Or.inl rfl | exact Or.inr rfl))) (jss_one (js_ret (je_callT c_tuple (by rfl) T.n_tuple (by decide +kernel) (ja_cons (je_frz (jl_comp (own := [("worth", 2)]) rfl sc_seal_of.nd (ji_seq (je_gt (by rfl) T.gt_SEAL_WORTHS)) (blkOk_by (N := N_seal_of) (sc := defScope s_seal_of) (by decide +kernel)) binds_name (fun _ _ _ _ _ => (pg_name (i := 2) sc_seal_of.nd rfl (by first | exact Or.inl rfl | exact Or.inr rfl))) (fun _ _ _ _ _ => jts_nil) (fun _ _ _ _ _ => (je_op o_mod (je_op o_fdiv (je_var (pv 1)) (je_var (pv 2))) (je_gi (by rfl) T.g_BYTE))))) ja_nil))))), fun ws S Q Ex hl g => ?_⟩
  obtain ⟨bs, rfl, g⟩ := g
  walk_at "go"
  refine ⟨bs, rfl, ?_⟩
  walk_at "go"
  exact clo.of g
/-! ### without_seal -/
def optRow : Option (List Int) → Dt
  | none => .non
  | some l => .tup (l.map Dt.int)
def G_without_seal : Fw := fun ws S Q _ => ∃ bs : List Int, ws = [.tup (bs.map Dt.int)] ∧ Q (optRow (unslF bs)) S
theorem ok_without_seal (T : Txt P w K mg base c_BadFloor c_NoNumber c_BadRow c_NoRow c_Floor c_Reader) (D : Dfn2 K mg "without_seal" "without_seal" s_without_seal ["row"]) (C_seal_of : Cal P w K mg base "seal_of" 3 ["row"] 1 G_seal_of) : Cal P w K mg base "without_seal" 4 ["row"] 1 G_without_seal := by
  refine cal_of D sc_without_seal G_without_seal rfl fun f cdv A outer s H E hr => ?_
  have hu := hr.units
  refine ⟨_, (jss_cons (js_if (jt_cmp o_lt (je_callB (c_len) (by rfl) T.n_len (by decide +kernel) (ja_cons (je_var (pv 0)) ja_nil)) (je_gi (by rfl) T.g_SEAL_BYTES) (nomark _)) (jss_one (js_ret je_non)) jss_nil) (jss_cons (js_set (je_slice o_slice (je_var (pv 0)) jo_none (jo_some (je_op o_sub (je_callB (c_len) (by rfl) T.n_len (by decide +kernel) (ja_cons (je_var (pv 0)) ja_nil)) (je_gi (by rfl) T.g_SEAL_BYTES)))) (pg_name (i := 1) sc_without_seal.nd rfl (by first | exact Or.inl rfl | exact Or.inr rfl))) (jss_one (js_ret (je_if (jt_cmp (o_eq hu) (je_cal C_seal_of (hr.mono (by omega)) takes_def (by rfl) (ja_cons (je_var (pv 1)) ja_nil)) (je_slice o_slice (je_var (pv 0)) (jo_some (je_callB (c_len) (by rfl) T.n_len (by decide +kernel) (ja_cons (je_var (pv 1)) ja_nil))) jo_none) (nomark _)) (je_var (pv 1)) je_non))))), fun ws S Q Ex hl g => ?_⟩
  obtain ⟨bs, rfl, g0⟩ := g
  have g : clo Q (optRow (unslF bs)) S := clo.of g0
  clear g0
  have l1 : (bs.map Dt.int).length = bs.length := List.length_map ..
  unfold unslF at g
  walk_at "go"
  rw [l1]
  by_cases h : bs.length < 4
  · rw [decide_eq_true (by omega : (bs.length : Int) < 4)]
    rw [if_pos h] at g
    walk_at "go"
    exact g
  · rw [decide_eq_false (by omega : ¬ (bs.length : Int) < 4)]
    rw [if_neg h] at g
    walk_at "go"
    rw [l1, cutW_take (by omega), show ((bs.length : Int) - 4).toNat = bs.length - 4 by omega, ← List.map_take]
    walk_at "go"
    refine ⟨_, rfl, ?_⟩
    walk_at "go"
    have l2 : ((bs.take (bs.length - 4)).map Dt.int).length = bs.length - 4 := by rw [List.length_map, List.length_take]; omega
    rw [l2, cutW_drop (by omega), Int.toNat_natCast, ← List.map_drop]
    refine ⟨fl_ints 59 _, ?_⟩
    rw [eqD_ints]
    by_cases h2 : sealF (bs.take (bs.length - 4)) = bs.drop (bs.length - 4)
    · rw [decide_eq_true h2]
      rw [if_pos h2] at g
      walk_at "go"
      exact g
    · rw [decide_eq_false h2]
      rw [if_neg h2] at g
      walk_at "go"
      exact g
/-! ### Reader_init -/
theorem rdO_set1 {c : Addr} {bs : List Int} {p q k : Nat} : rdO c bs p k = .ins c ["row", "at", "last"] (([.tup (bs.map Dt.int), .int (p : Nat), .int (q : Nat)] : List Dt).set 2 (.int (k : Nat))) := rfl
def G_Reader_init (c_Reader : Addr) : Fw := fun ws S Q _ => ∃ (r : Addr) (S0 : Store) (bs : List Int) (p : Nat), ws = [.ref r, .tup (bs.map Dt.int), .int (p : Nat)] ∧ S = sup S0 r (.ins c_Reader [] []) ∧ Q .non (sup S0 r (rdO c_Reader bs p p))
theorem ok_Reader_init (T : Txt P w K mg base c_BadFloor c_NoNumber c_BadRow c_NoRow c_Floor c_Reader) (D : DfnI K mg "Reader" c_Reader "Reader.__init__" s_Reader_init ["self", "row", "at"])  : CalI P w K mg base "Reader" c_Reader 1 ["self", "row", "at"] 3 (G_Reader_init c_Reader) := by
  refine calI_of D sc_Reader_init (G_Reader_init c_Reader) rfl fun f cdv A outer s H E hr => ?_
  have hu := hr.units
  refine ⟨_, (jss_cons (js_newF (ns0 := []) (ns1 := ["row"]) T.fd_Reader_row (by decide +kernel) (by decide +kernel) (by decide) (je_var (pv 0)) (je_var (pv 1))) (jss_cons (js_newF (ns0 := ["row"]) (ns1 := ["row", "at"]) T.fd_Reader_at (by decide +kernel) (by decide +kernel) (by decide) (je_var (pv 0)) (je_var (pv 2))) (jss_one (js_newF (ns0 := ["row", "at"]) (ns1 := ["row", "at", "last"]) T.fd_Reader_last (by decide +kernel) (by decide +kernel) (by decide) (je_var (pv 0)) (je_var (pv 2)))))), fun ws S Q Ex hl g => ?_⟩
  obtain ⟨r, S0, bs, p, rfl, rfl, g⟩ := g
  walk_at "go"
  simp only [sup_sup]
  exact clo.of g
/-! ### Reader_next_byte -/
def G_Reader_next_byte (c_Reader c_BadRow : Addr) : Fw := fun ws S Q Ex => ∃ (r : Addr) (bs : List Int) (p q : Nat), ws = [.ref r] ∧ S r = some (rdO c_Reader bs p q) ∧ RowOk bs ∧ p ≤ bs.length ∧ (∀ n, bs[p]? = some n → Q (.int n) (sup S r (rdO c_Reader bs (p + 1) p))) ∧ (p = bs.length → ∀ o, Ex ⟨.ref c_BadRow, some (["place"], [.int (p : Nat)])⟩ (sup S r o))
theorem ok_Reader_next_byte (T : Txt P w K mg base c_BadFloor c_NoNumber c_BadRow c_NoRow c_Floor c_Reader) (D : DfnM K c_Reader "next_byte" "Reader.next_byte" s_Reader_next_byte ["self"])  : CalM P w K mg base c_Reader "next_byte" 3 ["self"] 1 (G_Reader_next_byte c_Reader c_BadRow) := by
  refine calM_of D sc_Reader_next_byte (G_Reader_next_byte c_Reader c_BadRow) rfl fun f cdv A outer s H E hr => ?_
  have hu := hr.units
  refine ⟨_, (jss_cons (js_setF (ns0 := ["row", "at", "last"]) (i := 2) T.fd_Reader_last (fieldAt_of (by decide +kernel)) (by decide) (je_var (pv 0)) (je_fld (ns0 := ["row", "at", "last"]) (i := 1) T.fd_Reader_at (fieldAt_of (by decide +kernel)) (je_var (pv 0)))) (jss_cons (js_if (jt_cmp o_ge (je_fld (ns0 := ["row", "at", "last"]) (i := 1) T.fd_Reader_at (fieldAt_of (by decide +kernel)) (je_var (pv 0))) (je_callB (c_len) (by rfl) T.n_len (by decide +kernel) (ja_cons (je_fld (ns0 := ["row", "at", "last"]) (i := 0) T.fd_Reader_row (fieldAt_of (by decide +kernel)) (je_var (pv 0))) ja_nil)) (nomark _)) (jss_one (js_raise rfl takes_def (jr_exc1 T.x_BadRow (hr.mono (by omega)) (by rfl) (je_fld (ns0 := ["row", "at", "last"]) (i := 1) T.fd_Reader_at (fieldAt_of (by decide +kernel)) (je_var (pv 0)))))) jss_nil) (jss_cons (js_augF (ns0 := ["row", "at", "last"]) (i := 1) T.fd_Reader_at (fieldAt_of (by decide +kernel)) (by decide) (je_var (pv 0)) je_int in_addW) (jss_one (js_ret (je_ix o_ix (je_fld (ns0 := ["row", "at", "last"]) (i := 0) T.fd_Reader_row (fieldAt_of (by decide +kernel)) (je_var (pv 0))) (je_op o_sub (je_fld (ns0 := ["row", "at", "last"]) (i := 1) T.fd_Reader_at (fieldAt_of (by decide +kernel)) (je_var (pv 0))) je_int) (fun _ _ => rfl))))))), fun ws S Q Ex hl g => ?_⟩
  obtain ⟨r, bs, p, q, rfl, hS, ok, hp, g1, g2⟩ := g
  have l1 : (bs.map Dt.int).length = bs.length := List.length_map ..
  walk_at "go"
  rw [hS]
  walk_at "go"
  rw [hS]
  walk_at "go"
  rw [l1]
  by_cases e : p = bs.length
  · rw [decide_eq_true (by omega : (bs.length : Int) ≤ (p : Int))]
    walk_at "go"
    exact clX.of (g2 e _)
  · rw [decide_eq_false (by omega : ¬ (bs.length : Int) ≤ (p : Int))]
    obtain ⟨b, hb⟩ : ∃ b, bs[p]? = some b := ⟨_, List.getElem?_eq_getElem (by omega)⟩
    walk_at "go"
    rw [show (p : Int) + 1 - 1 = (p : Int) by omega, show atI (bs.map Dt.int) (p : Int) = some (.int b) by
      rw [Dn.atI_get (by omega), Int.toNat_natCast, List.getElem?_map, hb]
      rfl]
    walk_at "go"
    simp only [sup_sup]
    exact clo.of (g1 b hb)
/-! ### Reader_finish -/
def G_Reader_finish (c_Reader c_BadRow : Addr) : Fw := fun ws S Q Ex => ∃ (r : Addr) (bs : List Int) (p q : Nat), ws = [.ref r] ∧ S r = some (rdO c_Reader bs p q) ∧ p ≤ bs.length ∧ (p = bs.length → Q .non S) ∧ (p < bs.length → Ex ⟨.ref c_BadRow, some (["place"], [.int (p : Nat)])⟩ S)
theorem ok_Reader_finish (T : Txt P w K mg base c_BadFloor c_NoNumber c_BadRow c_NoRow c_Floor c_Reader) (D : DfnM K c_Reader "finish" "Reader.finish" s_Reader_finish ["self"])  : CalM P w K mg base c_Reader "finish" 3 ["self"] 1 (G_Reader_finish c_Reader c_BadRow) := by
  refine calM_of D sc_Reader_finish (G_Reader_finish c_Reader c_BadRow) rfl fun f cdv A outer s H E hr => ?_
  have hu := hr.units
  refine ⟨_, (jss_one (js_if (jt_cmp o_lt (je_fld (ns0 := ["row", "at", "last"]) (i := 1) T.fd_Reader_at (fieldAt_of (by decide +kernel)) (je_var (pv 0))) (je_callB (c_len) (by rfl) T.n_len (by decide +kernel) (ja_cons (je_fld (ns0 := ["row", "at", "last"]) (i := 0) T.fd_Reader_row (fieldAt_of (by decide +kernel)) (je_var (pv 0))) ja_nil)) (nomark _)) (jss_one (js_raise rfl takes_def (jr_exc1 T.x_BadRow (hr.mono (by omega)) (by rfl) (je_fld (ns0 := ["row", "at", "last"]) (i := 1) T.fd_Reader_at (fieldAt_of (by decide +kernel)) (je_var (pv 0)))))) jss_nil)), fun ws S Q Ex hl g => ?_⟩
  obtain ⟨r, bs, p, q, rfl, hS, hp, g1, g2⟩ := g
  have l1 : (bs.map Dt.int).length = bs.length := List.length_map ..
  walk_at "go"
  rw [hS]
  walk_at "go"
  rw [hS]
  walk_at "go"
  rw [l1]
  by_cases e : p < bs.length
  · rw [decide_eq_true (by omega : (p : Int) < (bs.length : Int))]
    walk_at "go"
    rw [hS]
    walk_at "go"
    exact clX.of (g2 e)
  · rw [decide_eq_false (by omega : ¬ (p : Int) < (bs.length : Int))]
    walk_at "go"
    exact clo.of (g1 (by omega))
/-! ### number_at -/
def G_number_at : Fw := fun ws S Q _ => ∃ (bs : List Int) (a : Nat), ws = [.tup (bs.map Dt.int), .int a] ∧ a ≤ bs.length ∧ bs.length ≤ 300000 ∧ (∀ b ∈ bs, 0 ≤ b ∧ b ≤ 255) ∧ Q (optD a (numAt bs a)) S
theorem ok_number_at (T : Txt P w K mg base c_BadFloor c_NoNumber c_BadRow c_NoRow c_Floor c_Reader) (D : Dfn2 K mg "number_at" "number_at" s_number_at ["row", "at"])  : Cal P w K mg base "number_at" 1 ["row", "at"] 2 G_number_at := by
  refine cal_of D sc_number_at G_number_at rfl fun f cdv A outer s H E hr => ?_
  have hu := hr.units
  refine ⟨_, (jss_cons (js_set je_int (pg_name (i := 2) sc_number_at.nd rfl (by first | exact Or.inl rfl | exact Or.inr rfl))) (jss_cons (js_set je_int (pg_name (i := 3) sc_number_at.nd rfl (by first | exact Or.inl rfl | exact Or.inr rfl))) (jss_cons (js_for passes_def rfl (ji_rng2 (by rfl) T.n_range (ja_cons (je_var (pv 1)) (ja_cons (je_callB (c_min rfl) (by rfl) T.n_min (by decide +kernel) (ja_cons (je_callB (c_len) (by rfl) T.n_len (by decide +kernel) (ja_cons (je_var (pv 0)) ja_nil)) (ja_cons (je_op o_add (je_var (pv 1)) (je_gi (by rfl) T.g_MOST_FIGURES)) ja_nil))) ja_nil))) (jg_name (pg_name (i := 4) sc_number_at.nd rfl (by first | exact Or.inl rfl | exact Or.inr rfl))) (jss_cons (js_aug (i := 2) sc_number_at.nd rfl (by first | exact Or.inl rfl | exact Or.inr rfl) (je_op o_mul (je_op o_mod (je_ix o_ix (je_var (pv 0)) (je_var (pv 4)) (fun _ _ => rfl)) (je_gi (by rfl) T.g_FIGURE)) (je_var (pv 3))) i_add) (jss_cons (js_set (je_op o_mul (je_var (pv 3)) (je_gi (by rfl) T.g_FIGURE)) (pg_name (i := 3) sc_number_at.nd rfl (by first | exact Or.inl rfl | exact Or.inr rfl))) (jss_one (js_if (jt_cmp o_lt (je_ix o_ix (je_var (pv 0)) (je_var (pv 4)) (fun _ _ => rfl)) (je_gi (by rfl) T.g_FIGURE) (nomark _)) (jss_cons (js_set (je_and (je_cmp (o_eq hu) (je_ix o_ix (je_var (pv 0)) (je_var (pv 4)) (fun _ _ => rfl)) je_int (nomark _)) (je_one (je_cmp o_gt (je_var (pv 4)) (je_var (pv 1)) (nomark _)))) (pg_name (i := 5) sc_number_at.nd rfl (by first | exact Or.inl rfl | exact Or.inr rfl))) (jss_one (js_ret (je_if (jt_w (jw_or (jt_val (je_var (pv 5))) (jw_one (jt_cmp o_ge (je_var (pv 2)) (je_gi (by rfl) T.g_WHOLE_BOUND) (nomark _))))) je_non (je_tup (ja_cons (je_var (pv 2)) (ja_cons (je_op o_add (je_var (pv 4)) je_int) ja_nil))))))) jss_nil))))) (jss_one (js_ret je_non))))), fun ws S Q Ex hl g => ?_⟩
  obtain ⟨bs, a, rfl, ha, hl, hb, g⟩ := g
  have g : clo Q (optD a (numAt bs a)) S := clo.of g
  have hlm : (bs.map Dt.int).length = bs.length := List.length_map ..
  walk_at "ny"
  have hi : ((if (a : Int) + 10 < ((bs.map Dt.int).length : Int) then (a : Int) + 10 else ((bs.map Dt.int).length : Int)) - (a : Int)).toNat = min 10 (bs.length - a) := by
    rw [hlm]
    split <;> omega
  rw [hi]
  refine forW_rule (fun i σ S' => ∃ (v p : Int) (y1 y2 : Option Dt), S' = S ∧ σ = [some (.tup (bs.map Dt.int)), some (.int a), some (.int v), some (.int p), y1, y2] ∧ numAt bs a = numG (bs.drop (a + i)) (10 - i) v p i) ⟨0, 1, none, none, rfl, rfl, rfl⟩ ?_ ?_
  · rintro i w σ S' N ew ⟨v, p, y1, y2, rfl, rfl, he⟩ hN
    have h10 := (List.getElem?_eq_some_iff.mp ew).1
    rw [rangeW_len] at h10
    rw [rangeW_get _ _ _ h10] at ew
    cases ew
    have hlt : a + i < bs.length := by omega
    have hbb := hb _ (List.getElem_mem hlt)
    have hdr : bs.drop (a + i) = bs[a + i] :: bs.drop (a + i + 1) := List.drop_eq_getElem_cons hlt
    have hat : atI (bs.map Dt.int) ((a : Int) + (i : Int)) = some (.int bs[a + i]) := by
      rw [Dn.atI_get (by omega), List.getElem?_map, show ((a : Int) + (i : Int)).toNat = a + i by omega, List.getElem?_eq_getElem hlt]
      rfl
    generalize bs[a + i] = b at hbb hdr hat
    rw [hdr, show 10 - i = 10 - (i + 1) + 1 by omega] at he
    refine ⟨trivial, ?_⟩
    walk_at "nx"
    rw [hat]
    walk_at "ny"
    refine ⟨.inl ⟨by omega, by omega⟩, ?_⟩
    walk_at "ny"
    rw [hat]
    walk_at "ny"
    by_cases hc : b < 128
    · rw [numG_last hc] at he
      rw [decide_eq_true hc]
      walk_at "ny"
      rw [hat]
      walk_at "ny"
      have fin : ∀ hn : ¬ (b = 0 ∧ 0 < i), (18446744073709551616 ≤ v + b % 128 * p → clo Q .non S') ∧ (¬ 18446744073709551616 ≤ v + b % 128 * p → clo Q (.tup [.int (v + b % 128 * p), .int ((a : Int) + (i : Int) + 1)]) S') := fun hn => ⟨fun h => by
        rw [if_pos (.inr h)] at he
        rw [he] at g
        exact g, fun h => by
        rw [if_neg (fun z => z.elim hn h)] at he
        rw [he] at g
        exact g⟩
      by_cases hz : b = 0
      · rw [decide_eq_true hz]
        walk_at "ny"
        by_cases hp : 0 < i
        · rw [decide_eq_true (show (a : Int) < (a : Int) + (i : Int) by omega)]
          rw [if_pos (.inl ⟨hz, hp⟩)] at he
          rw [he] at g
          walk_at "ny"
          exact g
        · rw [decide_eq_false (show ¬ (a : Int) < (a : Int) + (i : Int) by omega)]
          walk_at "ny"
          obtain ⟨f1, f2⟩ := fin (fun z => hp z.2)
          by_cases hb : 18446744073709551616 ≤ v + b % 128 * p
          · rw [decide_eq_true hb]
            walk_at "ny"
            exact f1 hb
          · rw [decide_eq_false hb]
            walk_at "ny"
            exact f2 hb
      · rw [decide_eq_false hz]
        walk_at "ny"
        obtain ⟨f1, f2⟩ := fin (fun z => hz z.1)
        by_cases hb : 18446744073709551616 ≤ v + b % 128 * p
        · rw [decide_eq_true hb]
          walk_at "ny"
          exact f1 hb
        · rw [decide_eq_false hb]
          walk_at "ny"
          exact f2 hb
    · rw [decide_eq_false hc]
      walk_at "ny"
      rw [numG_more hc] at he
      exact hN _ _ ⟨_, _, _, _, rfl, rfl, he⟩
  · rintro σ S' ⟨v, p, y1, y2, rfl, rfl, he⟩
    refine ⟨trivial, ?_⟩
    walk_at "nx"
    rw [rangeW_len] at he
    have e : numAt bs a = none := by
      rw [he]
      by_cases h : 10 ≤ bs.length - a
      · rw [Nat.min_eq_left h]
        exact numG_zero
      · rw [Nat.min_eq_right (by omega), List.drop_of_length_le (by omega)]
        exact numG_nil
    rw [e] at g
    exact g
/-! ### taken -/
def G_taken (c_BadRow : Addr) : Fw := fun ws S Q Ex => ∃ (bs : List Int) (a : Nat), ws = [.tup (bs.map Dt.int), .int a] ∧ a ≤ bs.length ∧ bs.length ≤ 300000 ∧ (∀ b ∈ bs, 0 ≤ b ∧ b ≤ 255) ∧ (match numAt bs a with | none => Ex ⟨.ref c_BadRow, some (["place"], [.int a])⟩ S | some (n, c) => Q (.tup [.int n, .int ((a : Int) + (c : Int))]) S)
theorem ok_taken (T : Txt P w K mg base c_BadFloor c_NoNumber c_BadRow c_NoRow c_Floor c_Reader) (D : Dfn2 K mg "taken" "taken" s_taken ["row", "at"]) (C_number_at : Cal P w K mg base "number_at" 1 ["row", "at"] 2 G_number_at) : Cal P w K mg base "taken" 3 ["row", "at"] 2 (G_taken c_BadRow) := by
  refine cal_of D sc_taken (G_taken c_BadRow) rfl fun f cdv A outer s H E hr => ?_
  have hu := hr.units
  refine ⟨_, (jss_cons (js_set (je_cal C_number_at (hr.mono (by omega)) takes_def (by rfl) (ja_cons (je_var (pv 0)) (ja_cons (je_var (pv 1)) ja_nil))) (pg_name (i := 2) sc_taken.nd rfl (by first | exact Or.inl rfl | exact Or.inr rfl))) (jss_cons (js_if (jt_cmp o_is (je_var (pv 2)) je_non (nomark _)) (jss_one (js_raise rfl takes_def (jr_exc1 T.x_BadRow (hr.mono (by omega)) (by rfl) (je_var (pv 1))))) jss_nil) (jss_one (js_ret (je_var (pv 2)))))), fun ws S Q Ex hl g => ?_⟩
  obtain ⟨bs, a, rfl, ha, hl, hb, g⟩ := g
  walk_at "ny"
  refine ⟨bs, a, rfl, ha, hl, hb, ?_⟩
  cases e : numAt bs a with
  | none =>
    rw [e] at g
    walk_at "ny"
    exact clX.of g
  | some p =>
    obtain ⟨n, c⟩ := p
    rw [e] at g
    walk_at "ny"
    exact clo.of g
/-! ### Reader_next_number -/
def G_Reader_next_number (c_Reader c_BadRow : Addr) : Fw := fun ws S Q Ex => ∃ (r : Addr) (bs : List Int) (p q : Nat), ws = [.ref r] ∧ S r = some (rdO c_Reader bs p q) ∧ RowOk bs ∧ p ≤ bs.length ∧ (∀ n k, numAt bs p = some (n, k) → Q (.int n) (sup S r (rdO c_Reader bs (p + k) p))) ∧ (numAt bs p = none → ∀ o, Ex ⟨.ref c_BadRow, some (["place"], [.int (p : Nat)])⟩ (sup S r o))
theorem ok_Reader_next_number (T : Txt P w K mg base c_BadFloor c_NoNumber c_BadRow c_NoRow c_Floor c_Reader) (D : DfnM K c_Reader "next_number" "Reader.next_number" s_Reader_next_number ["self"]) (C_taken : Cal P w K mg base "taken" 3 ["row", "at"] 2 (G_taken c_BadRow)) : CalM P w K mg base c_Reader "next_number" 4 ["self"] 1 (G_Reader_next_number c_Reader c_BadRow) := by
  refine calM_of D sc_Reader_next_number (G_Reader_next_number c_Reader c_BadRow) rfl fun f cdv A outer s H E hr => ?_
  have hu := hr.units
  refine ⟨_, (jss_cons (js_setF (ns0 := ["row", "at", "last"]) (i := 2) T.fd_Reader_last (fieldAt_of (by decide +kernel)) (by decide) (je_var (pv 0)) (je_fld (ns0 := ["row", "at", "last"]) (i := 1) T.fd_Reader_at (fieldAt_of (by decide +kernel)) (je_var (pv 0)))) (jss_cons (js_asg (je_cal C_taken (hr.mono (by omega)) takes_def (by rfl) (ja_cons (je_fld (ns0 := ["row", "at", "last"]) (i := 0) T.fd_Reader_row (fieldAt_of (by decide +kernel)) (je_var (pv 0))) (ja_cons (je_fld (ns0 := ["row", "at", "last"]) (i := 1) T.fd_Reader_at (fieldAt_of (by decide +kernel)) (je_var (pv 0))) ja_nil))) (jg_tup (n := 2) rfl (jgs_cons (jg_name (pg_name (i := 1) sc_Reader_next_number.nd rfl (by first | exact Or.inl rfl | exact Or.inr rfl))) (jgs_cons (jg_fld (ns0 := ["row", "at", "last"]) (i := 1) T.fd_Reader_at (fieldAt_of (by decide +kernel)) (by decide) (je_var (pv 0))) jgs_nil)))) (jss_one (js_ret (je_var (pv 1)))))), fun ws S Q Ex hl g => ?_⟩
  obtain ⟨r, bs, p, q, rfl, hS, ok, hp, g1, g2⟩ := g
  walk_at "go"
  rw [hS]
  walk_at "go"
  rw [hS]
  walk_at "go"
  refine ⟨bs, p, rfl, hp, ok.1, ok.2, ?_⟩
  cases e : numAt bs p with
  | none => exact clX.of (g2 e _)
  | some x =>
    obtain ⟨n, k⟩ := x
    have g := g1 n k e
    unfold rdO at g
    rw [Int.natCast_add] at g
    walk_at "go"
    simp only [sup_sup]
    exact clo.of g
/-! ### taken_counts -/
/-- so many numbers -/
def nmsR (bs : List Int) : Nat → Nat → Except Nat (List Nat × Nat)
  | 0, p => .ok ([], p)
  | m + 1, p => match numAt bs p with
    | none => .error p
    | some (n, c) => match nmsR bs m (p + c) with
      | .error x => .error x
      | .ok (ns, k) => .ok (n.toNat :: ns, k)
theorem nmsR_ok {bs : List Int} (hb : ∀ b ∈ bs, 0 ≤ b ∧ b ≤ 255) : ∀ {m p : Nat} {zs : List Nat} {k : Nat}, p ≤ bs.length → nmsR bs m p = .ok (zs, k) → zs.length = m ∧ p ≤ k ∧ k ≤ bs.length
  | 0, p, zs, k, hp, h => by
    cases h
    exact ⟨rfl, Nat.le_refl _, hp⟩
  | m + 1, p, zs, k, hp, h => by
    unfold nmsR at h
    split at h
    · cases h
    · rename_i n c e1
      split at h
      · cases h
      · rename_i us j e2
        cases h
        have a := numAt_in hb e1
        obtain ⟨b1, b2, b3⟩ := nmsR_ok hb (by omega) e2
        exact ⟨by rw [List.length_cons, b1], by omega, b3⟩
def G_taken_counts (c_Reader c_BadRow : Addr) : Fw := fun ws S Q Ex => ∃ (r : Addr) (bs : List Int) (p q many : Nat), ws = [.int (many : Nat), .ref r] ∧ S r = some (rdO c_Reader bs p q) ∧ RowOk bs ∧ p ≤ bs.length ∧ many ≤ 1000 ∧ (∀ zs k j, nmsR bs many p = .ok (zs, k) → Q (.tup (lotW zs)) (sup S r (rdO c_Reader bs k j))) ∧ (∀ x, nmsR bs many p = .error x → ∀ o, Ex ⟨.ref c_BadRow, some (["place"], [.int (x : Nat)])⟩ (sup S r o))
theorem ok_taken_counts (T : Txt P w K mg base c_BadFloor c_NoNumber c_BadRow c_NoRow c_Floor c_Reader) (D : Dfn2 K mg "taken_counts" "taken_counts" s_taken_counts ["many", "reader"]) (C_Reader_next_number : CalM P w K mg base c_Reader "next_number" 4 ["self"] 1 (G_Reader_next_number c_Reader c_BadRow)) : Cal P w K mg base "taken_counts" 5 ["many", "reader"] 2 (G_taken_counts c_Reader c_BadRow) := by
  refine cal_of D sc_taken_counts (G_taken_counts c_Reader c_BadRow) rfl fun f cdv A outer s H E hr => ?_
  have hu := hr.units
  refine ⟨_, (jss_one (js_ret (je_callT c_tuple (by rfl) T.n_tuple (by decide +kernel) (ja_cons (je_frz (jl_compX (own := [("turn", 2)]) rfl rfl takes_def rfl sc_taken_counts.nd (ji_rngB (by rfl) T.n_range (ja_cons (je_var (pv 0)) ja_nil)) (blkOk_by (N := N_taken_counts) (sc := defScope s_taken_counts) (by decide +kernel)) binds_name (fun _ _ _ _ _ _ => (pg_name (i := 2) sc_taken_counts.nd rfl (by first | exact Or.inl rfl | exact Or.inr rfl))) (fun _ _ _ _ _ _ => jts_nil) (fun _ _ _ _ _ _ _ tkx => (je_method0 (ns0 := ["row", "at", "last"]) C_Reader_next_number (by decide +kernel) (hr.mono (by omega)) tkx (je_var (pv 1)))))) ja_nil)))), fun ws S Q Ex hl g => ?_⟩
  obtain ⟨r, bs, p, q, many, rfl, hS, ok, hp, hm, g1, g2⟩ := g
  walk_at "go"
  rw [Int.toNat_natCast, rangeW_0]
  refine compX_inv (fun i : Nat => .int (i : Nat)) (fun j acc S1 => ∃ (zs : List Nat) (a b : Nat), acc = lotW zs ∧ S1 = sup S r (rdO c_Reader bs a b) ∧ a ≤ bs.length ∧ zs.length = j ∧ j ≤ many ∧ nmsR bs many p = (match nmsR bs (many - j) a with | .error x => .error x | .ok (us, c) => .ok (zs ++ us, c))) (List.range many) 0 [] _ (fun j x _ hx acc S1 hj => ?_) ⟨[], p, q, rfl, sup_id hS, hp, rfl, Nat.zero_le _, ?_⟩ (fun acc S1 hj => ?_)
  · obtain ⟨zs, c, d, rfl, rfl, hc, hz, hjm, he⟩ := hj
    have hjl : j < many := by
      have := (List.getElem?_eq_some_iff.mp hx).1
      rw [List.length_range] at this
      omega
    refine ⟨trivial, _, rfl, fun N hN => ?_⟩
    rw [show many - j = (many - (j + 1)) + 1 by omega, nmsR] at he
    walk_at "go"
    refine ⟨r, bs, c, d, rfl, sup_same, ok, hc, fun n k ez => ?_, fun ez o => ?_⟩
    · rw [ez] at he
      dsimp only at he
      have az := numAt_in ok.2 ez
      refine ⟨by rw [show (lotW zs).length = zs.length from List.length_map ..]; show _ < 16777216; omega, ?_⟩
      rw [sup_sup]
      refine hN _ _ ⟨zs ++ [n.toNat], c + k, c, ?_, rfl, by omega, by rw [List.length_append, hz]; rfl, by omega, ?_⟩
      · unfold lotW
        rw [List.map_append]
        show _ ++ [Dt.int n] = _ ++ [Dt.int ((n.toNat : Nat) : Int)]
        rw [Int.toNat_of_nonneg az.1]
      · rw [he]
        cases nmsR bs (many - (j + 1)) (c + k) with
        | error x => rfl
        | ok v =>
          obtain ⟨us, l⟩ := v
          dsimp only
          rw [List.append_assoc]
          rfl
    · rw [ez] at he
      dsimp only at he
      rw [he] at g2
      dsimp only
      rw [sup_sup]
      exact clX.of (g2 c rfl o)
  · rw [Nat.sub_zero]
    cases nmsR bs many p with
    | error x => rfl
    | ok v => rfl
  · obtain ⟨zs, c, d, rfl, rfl, hc, hz, hjm, he⟩ := hj
    rw [List.length_range, Nat.zero_add] at hz he
    rw [Nat.sub_self, nmsR] at he
    dsimp only at he
    rw [List.append_nil] at he
    refine ⟨trivial, ?_⟩
    walk_at "go"
    exact clo.of (g1 zs c d he)
/-! ### taken_say -/
def tsayR (bs : List Int) (many p : Nat) : Except Nat (Lt × Nat) := match numAt bs p with
  | none => .error p
  | some (a, c1) => match numAt bs (p + c1) with
    | none => .error (p + c1)
    | some (b, c2) => match numAt bs (p + c1 + c2) with
      | none => .error (p + c1 + c2)
      | some (d, c3) => match nmsR bs many (p + c1 + c2 + c3) with
        | .error x => .error x
        | .ok (cs, j) => .ok (.say a.toNat b.toNat d.toNat cs, j)
def G_taken_say (c_Reader c_BadRow : Addr) : Fw := fun ws S Q Ex => ∃ (r : Addr) (bs : List Int) (p q many : Nat), ws = [.int (many : Nat), .ref r] ∧ S r = some (rdO c_Reader bs p q) ∧ RowOk bs ∧ p ≤ bs.length ∧ many ≤ 1000 ∧ (∀ l k j, k ≤ bs.length → tsayR bs many p = .ok (l, k) → Q (ltD l) (sup S r (rdO c_Reader bs k j))) ∧ (∀ x, tsayR bs many p = .error x → ∀ o, Ex ⟨.ref c_BadRow, some (["place"], [.int (x : Nat)])⟩ (sup S r o))
theorem ok_taken_say (T : Txt P w K mg base c_BadFloor c_NoNumber c_BadRow c_NoRow c_Floor c_Reader) (D : Dfn2 K mg "taken_say" "taken_say" s_taken_say ["many", "reader"]) (C_taken_counts : Cal P w K mg base "taken_counts" 5 ["many", "reader"] 2 (G_taken_counts c_Reader c_BadRow)) (C_Reader_next_number : CalM P w K mg base c_Reader "next_number" 4 ["self"] 1 (G_Reader_next_number c_Reader c_BadRow)) : Cal P w K mg base "taken_say" 6 ["many", "reader"] 2 (G_taken_say c_Reader c_BadRow) := by
  refine cal_of D sc_taken_say (G_taken_say c_Reader c_BadRow) rfl fun f cdv A outer s H E hr => ?_
  have hu := hr.units
  refine ⟨_, (jss_cons (js_par3 (i := 2) (j := 3) (l := 4) rfl sc_taken_say.nd rfl rfl rfl (by decide) (by decide) (by decide) rfl rfl rfl (ja_cons (je_method0 (ns0 := ["row", "at", "last"]) C_Reader_next_number (by decide +kernel) (hr.mono (by omega)) takes_def (je_var (pv 1))) (ja_cons (je_method0 (ns0 := ["row", "at", "last"]) C_Reader_next_number (by decide +kernel) (hr.mono (by omega)) takes_def (je_var (pv 1))) (ja_cons (je_method0 (ns0 := ["row", "at", "last"]) C_Reader_next_number (by decide +kernel) (hr.mono (by omega)) takes_def (je_var (pv 1))) ja_nil)))) (jss_one (js_ret (je_tup (ja_cons (je_gs (by rfl) T.g_SAY) (ja_cons (je_var (pv 2)) (ja_cons (je_var (pv 3)) (ja_cons (je_var (pv 4)) (ja_cons (je_cal C_taken_counts (hr.mono (by omega)) takes_def (by rfl) (ja_cons (je_var (pv 0)) (ja_cons (je_var (pv 1)) ja_nil))) ja_nil))))))))), fun ws S Q Ex hl g => ?_⟩
  obtain ⟨r, bs, p, q, many, rfl, hS, ok, hp, hm, g1, g2⟩ := g
  unfold tsayR at g1 g2
  walk_at "go"
  rw [hS]
  walk_at "go"
  refine ⟨r, bs, p, q, rfl, hS, ok, hp, fun a c1 e1 => ?_, fun e1 o => by rw [e1] at g2; exact clX.of (g2 p rfl o)⟩
  rw [e1] at g1 g2
  dsimp only at g1 g2
  have a1 := numAt_in ok.2 e1
  walk_at "go"
  refine ⟨r, bs, p + c1, _, rfl, sup_same, ok, by omega, fun b c2 e2 => ?_, fun e2 o => by rw [e2] at g2; dsimp only; rw [sup_sup]; exact clX.of (g2 _ rfl o)⟩
  rw [e2] at g1 g2
  dsimp only at g1 g2
  have a2 := numAt_in ok.2 e2
  rw [sup_sup]
  walk_at "go"
  refine ⟨r, bs, p + c1 + c2, _, rfl, sup_same, ok, by omega, fun d c3 e3 => ?_, fun e3 o => by rw [e3] at g2; dsimp only; rw [sup_sup]; exact clX.of (g2 _ rfl o)⟩
  rw [e3] at g1 g2
  dsimp only at g1 g2
  have a3 := numAt_in ok.2 e3
  rw [sup_sup]
  walk_at "go"
  refine ⟨r, bs, p + c1 + c2 + c3, _, many, rfl, sup_same, ok, by omega, hm, fun cs k j e4 => ?_, fun x e4 o => by rw [e4] at g2; dsimp only; rw [sup_sup]; exact clX.of (g2 _ rfl o)⟩
  rw [e4] at g1
  dsimp only at g1
  have a4 := nmsR_ok ok.2 (by omega) e4
  rw [sup_sup]
  walk_at "go"
  have g := g1 _ k j a4.2.2 rfl
  unfold ltD at g
  dsimp only at g
  rw [Int.toNat_of_nonneg a1.1, Int.toNat_of_nonneg a2.1, Int.toNat_of_nonneg a3.1] at g
  exact clo.of g
/-! ### small_number -/
/-- the next number, at most so great: what it is and the place behind it, or the place that is none -/
def smR (bs : List Int) (p : Nat) (most : Int) : Except Nat (Nat × Nat) := match numAt bs p with
  | none => .error p
  | some (n, k) => if most < n then .error p else .ok (n.toNat, p + k)
theorem smR_ok {bs : List Int} {p : Nat} {most : Int} {n q : Nat} (hb : ∀ b ∈ bs, 0 ≤ b ∧ b ≤ 255) (h : smR bs p most = .ok (n, q)) : (n : Int) ≤ most ∧ p < q ∧ q ≤ bs.length ∧ ∃ k, numAt bs p = some ((n : Int), k) ∧ q = p + k := by
  unfold smR at h
  split at h
  · cases h
  · rename_i m k e
    have := numAt_in hb e
    split at h
    · cases h
    · injection h with h
      injection h with e1 e2
      subst e1 e2
      exact ⟨by omega, by omega, by omega, k, by rw [e, Int.toNat_of_nonneg this.1], rfl⟩
def G_small_number (c_Reader c_BadRow : Addr) : Fw := fun ws S Q Ex => ∃ (r : Addr) (bs : List Int) (p q : Nat) (most : Int), ws = [.ref r, .int most] ∧ S r = some (rdO c_Reader bs p q) ∧ RowOk bs ∧ p ≤ bs.length ∧ (∀ n k, smR bs p most = .ok (n, k) → Q (.int (n : Nat)) (sup S r (rdO c_Reader bs k p))) ∧ (∀ x, smR bs p most = .error x → ∀ o, Ex ⟨.ref c_BadRow, some (["place"], [.int (x : Nat)])⟩ (sup S r o))
theorem ok_small_number (T : Txt P w K mg base c_BadFloor c_NoNumber c_BadRow c_NoRow c_Floor c_Reader) (D : Dfn2 K mg "small_number" "small_number" s_small_number ["reader", "most"]) (C_Reader_next_number : CalM P w K mg base c_Reader "next_number" 4 ["self"] 1 (G_Reader_next_number c_Reader c_BadRow)) : Cal P w K mg base "small_number" 5 ["reader", "most"] 2 (G_small_number c_Reader c_BadRow) := by
  refine cal_of D sc_small_number (G_small_number c_Reader c_BadRow) rfl fun f cdv A outer s H E hr => ?_
  have hu := hr.units
  refine ⟨_, (jss_cons (js_set (je_method0 (ns0 := ["row", "at", "last"]) C_Reader_next_number (by decide +kernel) (hr.mono (by omega)) takes_def (je_var (pv 0))) (pg_name (i := 2) sc_small_number.nd rfl (by first | exact Or.inl rfl | exact Or.inr rfl))) (jss_cons (js_if (jt_cmp o_gt (je_var (pv 2)) (je_var (pv 1)) (nomark _)) (jss_one (js_raise rfl takes_def (jr_exc1 T.x_BadRow (hr.mono (by omega)) (by rfl) (je_fld (ns0 := ["row", "at", "last"]) (i := 2) T.fd_Reader_last (fieldAt_of (by decide +kernel)) (je_var (pv 0)))))) jss_nil) (jss_one (js_ret (je_var (pv 2)))))), fun ws S Q Ex hl g => ?_⟩
  obtain ⟨r, bs, p, q, most, rfl, hS, ok, hp, g1, g2⟩ := g
  walk_at "go"
  rw [hS]
  walk_at "go"
  refine ⟨r, bs, p, q, rfl, hS, ok, hp, fun n k e => ?_, fun e o => ?_⟩
  · have g1 := fun m j h => g1 m j h
    unfold smR at g1 g2
    rw [e] at g1 g2
    dsimp only at g1 g2
    have hn := numAt_in ok.2 e
    walk_at "go"
    by_cases hm : most < n
    · rw [decide_eq_true hm]
      rw [if_pos hm] at g2
      walk_at "go"
      exact clX.of (g2 p rfl _)
    · rw [decide_eq_false hm]
      rw [if_neg hm] at g1
      have g := g1 _ _ rfl
      rw [Int.toNat_of_nonneg hn.1] at g
      walk_at "go"
      exact clo.of g
  · unfold smR at g2
    rw [e] at g2
    exact clX.of (g2 p rfl o)
/-! ### taken_pair -/
def prR (bs : List Int) (p : Nat) : Except Nat ((Nat × Nat) × Nat) := match smR bs p 4294967295 with
  | .error x => .error x
  | .ok (n, q) => match smR bs q 4294967295 with
    | .error x => .error x
    | .ok (m, k) => .ok ((n, m), k)
theorem prR_ok {bs : List Int} {p : Nat} {z : Nat × Nat} {q : Nat} (hb : ∀ b ∈ bs, 0 ≤ b ∧ b ≤ 255) (h : prR bs p = .ok (z, q)) : z.1 < 4294967296 ∧ z.2 < 4294967296 ∧ p < q ∧ q ≤ bs.length := by
  unfold prR at h
  split at h
  · cases h
  · rename_i n j e1
    split at h
    · cases h
    · rename_i m k e2
      injection h with h
      injection h with e3 e4
      subst e3 e4
      have a := smR_ok hb e1
      have b := smR_ok hb e2
      exact ⟨by dsimp only; omega, by dsimp only; omega, by omega, by omega⟩
def G_taken_pair (c_Reader c_BadRow : Addr) : Fw := fun ws S Q Ex => ∃ (r : Addr) (bs : List Int) (p q : Nat), ws = [.ref r] ∧ S r = some (rdO c_Reader bs p q) ∧ RowOk bs ∧ p ≤ bs.length ∧ (∀ z k j, prR bs p = .ok (z, k) → Q (prD z) (sup S r (rdO c_Reader bs k j))) ∧ (∀ x, prR bs p = .error x → ∀ o, Ex ⟨.ref c_BadRow, some (["place"], [.int (x : Nat)])⟩ (sup S r o))
theorem ok_taken_pair (T : Txt P w K mg base c_BadFloor c_NoNumber c_BadRow c_NoRow c_Floor c_Reader) (D : Dfn2 K mg "taken_pair" "taken_pair" s_taken_pair ["reader"]) (C_small_number : Cal P w K mg base "small_number" 5 ["reader", "most"] 2 (G_small_number c_Reader c_BadRow)) : Cal P w K mg base "taken_pair" 6 ["reader"] 1 (G_taken_pair c_Reader c_BadRow) := by
  refine cal_of D sc_taken_pair (G_taken_pair c_Reader c_BadRow) rfl fun f cdv A outer s H E hr => ?_
  have hu := hr.units
  refine ⟨_, (jss_one (js_ret (je_tup (ja_cons (je_cal C_small_number (hr.mono (by omega)) takes_def (by rfl) (ja_cons (je_var (pv 0)) (ja_cons (je_op o_sub (je_gi (by rfl) T.g_MOST_NUMBER) je_int) ja_nil))) (ja_cons (je_cal C_small_number (hr.mono (by omega)) takes_def (by rfl) (ja_cons (je_var (pv 0)) (ja_cons (je_op o_sub (je_gi (by rfl) T.g_MOST_NUMBER) je_int) ja_nil))) ja_nil))))), fun ws S Q Ex hl g => ?_⟩
  obtain ⟨r, bs, p, q, rfl, hS, ok, hp, g1, g2⟩ := g
  walk_at "go"
  unfold prR at g1 g2
  refine ⟨r, bs, p, q, _, rfl, hS, ok, hp, fun n k e => ?_, fun x e o => ?_⟩
  · have e : smR bs p 4294967295 = .ok (n, k) := e
    rw [e] at g1 g2
    dsimp only at g1 g2
    have a := smR_ok ok.2 e
    walk_at "go"
    refine ⟨r, bs, k, p, _, rfl, sup_same, ok, a.2.2.1, fun m j e2 => ?_, fun x e2 o => ?_⟩
    · have e2 : smR bs k 4294967295 = .ok (m, j) := e2
      rw [e2] at g1
      walk_at "go"
      rw [sup_sup]
      exact clo.of (g1 (n, m) j _ rfl)
    · have e2 : smR bs k 4294967295 = .error x := e2
      rw [e2] at g2
      dsimp only
      rw [sup_sup]
      exact clX.of (g2 x rfl o)
  · have e : smR bs p 4294967295 = .error x := e
    rw [e] at g2
    exact clX.of (g2 x rfl o)
/-! ### taken_entry -/
def prsR (bs : List Int) : Nat → Nat → Except Nat (List (Nat × Nat) × Nat)
  | 0, p => .ok ([], p)
  | m + 1, p => match prR bs p with
    | .error x => .error x
    | .ok (z, q) => match prsR bs m q with
      | .error x => .error x
      | .ok (zs, k) => .ok (z :: zs, k)
/-- the next entry of a row, or the place at which none is -/
def entR (bs : List Int) (p : Nat) : Except Nat (En × Nat) := match bs[p]? with
  | none => .error p
  | some w => if w = 1 then (match smR bs (p + 1) 6 with
      | .error x => .error x
      | .ok (m, q) => if m = 0 then .error (p + 1) else match prsR bs m q with
        | .error x => .error x
        | .ok (zs, k) => .ok (.ord zs, k))
    else if w = 2 then (match smR bs (p + 1) 4294967295 with
      | .error x => .error x
      | .ok (n, k) => .ok (.out n, k))
    else if w = 3 then (match smR bs (p + 1) 4294967295 with
      | .error x => .error x
      | .ok (n, k) => .ok (.inn n, k))
    else .error p
theorem prsR_ok {bs : List Int} (hb : ∀ b ∈ bs, 0 ≤ b ∧ b ≤ 255) : ∀ {m p : Nat} {zs : List (Nat × Nat)} {k : Nat}, p ≤ bs.length → prsR bs m p = .ok (zs, k) → zs.length = m ∧ (∀ z ∈ zs, z.1 < 4294967296 ∧ z.2 < 4294967296) ∧ p ≤ k ∧ k ≤ bs.length
  | 0, p, zs, k, hp, h => by
    cases h
    exact ⟨rfl, (fun z hz => nomatch hz), Nat.le_refl _, hp⟩
  | m + 1, p, zs, k, hp, h => by
    unfold prsR at h
    split at h
    · cases h
    · rename_i z q e1
      split at h
      · cases h
      · rename_i us j e2
        cases h
        have a := prR_ok hb e1
        obtain ⟨b1, b2, b3, b4⟩ := prsR_ok hb a.2.2.2 e2
        refine ⟨by rw [List.length_cons, b1], fun y hy => ?_, by omega, b4⟩
        rcases List.mem_cons.mp hy with rfl | hy
        · exact ⟨a.1, a.2.1⟩
        · exact b2 y hy
theorem entR_ok {bs : List Int} {p : Nat} {e : En} {k : Nat} (hb : ∀ b ∈ bs, 0 ≤ b ∧ b ≤ 255) (h : entR bs p = .ok (e, k)) : EnOk e ∧ p < k ∧ k ≤ bs.length := by
  unfold entR at h
  split at h
  · cases h
  · rename_i w ew
    have hp := (List.getElem?_eq_some_iff.mp ew).1
    split at h
    · split at h
      · cases h
      · rename_i m q e1
        have a := smR_ok hb e1
        split at h
        · cases h
        · split at h
          · cases h
          · rename_i zs j e2
            cases h
            obtain ⟨b1, b2, b3, b4⟩ := prsR_ok hb a.2.2.1 e2
            exact ⟨⟨by omega, by omega, b2⟩, by omega, b4⟩
    · split at h
      · split at h
        · cases h
        · rename_i n j e1
          cases h
          have a := smR_ok hb e1
          exact ⟨show n < _ by omega, by omega, by omega⟩
      · split at h
        · split at h
          · cases h
          · rename_i n j e1
            cases h
            have a := smR_ok hb e1
            exact ⟨show n < _ by omega, by omega, by omega⟩
        · cases h
def G_taken_entry (c_Reader c_BadRow : Addr) : Fw := fun ws S Q Ex => ∃ (r : Addr) (bs : List Int) (p q : Nat), ws = [.ref r] ∧ S r = some (rdO c_Reader bs p q) ∧ RowOk bs ∧ p ≤ bs.length ∧ (∀ e k j, entR bs p = .ok (e, k) → Q (enD e) (sup S r (rdO c_Reader bs k j))) ∧ (∀ x, entR bs p = .error x → ∀ o, Ex ⟨.ref c_BadRow, some (["place"], [.int (x : Nat)])⟩ (sup S r o))
theorem ok_taken_entry (T : Txt P w K mg base c_BadFloor c_NoNumber c_BadRow c_NoRow c_Floor c_Reader) (D : Dfn2 K mg "taken_entry" "taken_entry" s_taken_entry ["reader"]) (C_taken_pair : Cal P w K mg base "taken_pair" 6 ["reader"] 1 (G_taken_pair c_Reader c_BadRow)) (C_small_number : Cal P w K mg base "small_number" 5 ["reader", "most"] 2 (G_small_number c_Reader c_BadRow)) (C_Reader_next_byte : CalM P w K mg base c_Reader "next_byte" 3 ["self"] 1 (G_Reader_next_byte c_Reader c_BadRow)) : Cal P w K mg base "taken_entry" 7 ["reader"] 1 (G_taken_entry c_Reader c_BadRow) := by
  refine cal_of D sc_taken_entry (G_taken_entry c_Reader c_BadRow) rfl fun f cdv A outer s H E hr => ?_
  have hu := hr.units
  refine ⟨_, (jss_cons (js_set (je_method0 (ns0 := ["row", "at", "last"]) C_Reader_next_byte (by decide +kernel) (hr.mono (by omega)) takes_def (je_var (pv 0))) (pg_name (i := 1) sc_taken_entry.nd rfl (by first | exact Or.inl rfl | exact Or.inr rfl))) (jss_cons (js_if (jt_not (jt_chain o_le o_le je_int (je_var (pv 1)) (je_callB (c_len) (by rfl) T.n_len (by decide +kernel) (ja_cons (je_gt (by rfl) T.gt_WORDS) ja_nil)))) (jss_one (js_raise rfl takes_def (jr_exc1 T.x_BadRow (hr.mono (by omega)) (by rfl) (je_fld (ns0 := ["row", "at", "last"]) (i := 2) T.fd_Reader_last (fieldAt_of (by decide +kernel)) (je_var (pv 0)))))) jss_nil) (jss_cons (js_if (jt_cmp (o_ne hu) (je_ix o_ix (je_gt (by rfl) T.gt_WORDS) (je_op o_sub (je_var (pv 1)) je_int) (fun _ _ => rfl)) (je_gs (by rfl) T.g_ORDERS) (nomark _)) (jss_one (js_ret (je_tup (ja_cons (je_ix o_ix (je_gt (by rfl) T.gt_WORDS) (je_op o_sub (je_var (pv 1)) je_int) (fun _ _ => rfl)) (ja_cons (je_cal C_small_number (hr.mono (by omega)) takes_def (by rfl) (ja_cons (je_var (pv 0)) (ja_cons (je_op o_sub (je_gi (by rfl) T.g_MOST_NUMBER) je_int) ja_nil))) ja_nil))))) jss_nil) (jss_cons (js_set (je_cal C_small_number (hr.mono (by omega)) takes_def (by rfl) (ja_cons (je_var (pv 0)) (ja_cons (je_gi (by rfl) T.g_MOST_ORDERS_AT_ONCE) ja_nil))) (pg_name (i := 2) sc_taken_entry.nd rfl (by first | exact Or.inl rfl | exact Or.inr rfl))) (jss_cons (js_if (jt_cmp (o_eq hu) (je_var (pv 2)) je_int (nomark _)) (jss_one (js_raise rfl takes_def (jr_exc1 T.x_BadRow (hr.mono (by omega)) (by rfl) (je_fld (ns0 := ["row", "at", "last"]) (i := 2) T.fd_Reader_last (fieldAt_of (by decide +kernel)) (je_var (pv 0)))))) jss_nil) (jss_one (js_ret (je_tup (ja_cons (je_gs (by rfl) T.g_ORDERS) (ja_cons (je_callT c_tuple (by rfl) T.n_tuple (by decide +kernel) (ja_cons (je_frz (jl_compX (own := [("turn", 3)]) rfl rfl takes_def rfl sc_taken_entry.nd (ji_rngB (by rfl) T.n_range (ja_cons (je_var (pv 2)) ja_nil)) (blkOk_by (N := N_taken_entry) (sc := defScope s_taken_entry) (by decide +kernel)) binds_name (fun _ _ _ _ _ _ => (pg_name (i := 3) sc_taken_entry.nd rfl (by first | exact Or.inl rfl | exact Or.inr rfl))) (fun _ _ _ _ _ _ => jts_nil) (fun _ _ _ _ _ _ _ tkx => (je_cal C_taken_pair (hr.mono (by omega)) tkx (by rfl) (ja_cons (je_var (pv 0)) ja_nil))))) ja_nil)) ja_nil)))))))))), fun ws S Q Ex hl g => ?_⟩
  obtain ⟨r, bs, p, q, rfl, hS, ok, hp, g1, g2⟩ := g
  unfold entR at g1 g2
  walk_at "go"
  rw [hS]
  walk_at "go"
  refine ⟨r, bs, p, q, rfl, hS, ok, hp, fun w ew => ?_, fun e o => ?_⟩
  · rw [ew] at g1 g2
    dsimp only at g1 g2
    have hlt := (List.getElem?_eq_some_iff.mp ew).1
    have hw := ok.2 w (List.mem_of_getElem? ew)
    rcases (show w = 1 ∨ w = 2 ∨ w = 3 ∨ (w ≠ 1 ∧ w ≠ 2 ∧ w ≠ 3) by omega) with rfl | rfl | rfl | ⟨n1, n2, n3⟩
    · have t1 : ∀ {α : Type} (x y : α), (if (1 : Int) = 1 then x else y) = x := fun x y => if_pos rfl
      simp only [t1] at g1 g2
      walk_at "go"
      refine ⟨r, bs, p + 1, p, _, rfl, sup_same, ok, hlt, fun m k e1 => ?_, fun x e1 o => ?_⟩
      · rw [e1] at g1 g2
        dsimp only at g1 g2
        have a := smR_ok ok.2 e1
        by_cases hm : m = 0
        · subst hm
          have t2 : ∀ {α : Type} (x y : α), (if 0 = 0 then x else y) = x := fun x y => if_pos rfl
          simp only [t2] at g2
          walk_at "go"
          simp only [sup_sup]
          exact clX.of (g2 _ rfl _)
        · simp only [if_neg hm] at g1 g2
          walk_at "go"
          rw [Int.toNat_natCast, rangeW_0, sup_sup]
          refine compX_inv (fun i : Nat => .int (i : Nat)) (fun j acc S1 => ∃ (zs : List (Nat × Nat)) (a b : Nat), acc = zs.map prD ∧ S1 = sup S r (rdO c_Reader bs a b) ∧ a ≤ bs.length ∧ zs.length = j ∧ j ≤ m ∧ prsR bs m k = (match prsR bs (m - j) a with | .error x => .error x | .ok (us, c) => .ok (zs ++ us, c))) (List.range m) 0 [] _ (fun j x _ hx acc S1 hj => ?_) ⟨[], k, _, rfl, rfl, a.2.2.1, rfl, Nat.zero_le _, ?_⟩ (fun acc S1 hj => ?_)
          · obtain ⟨zs, c, d, rfl, rfl, hc, hz, hjm, he⟩ := hj
            have hjl : j < m := by
              have := (List.getElem?_eq_some_iff.mp hx).1
              rw [List.length_range] at this
              omega
            refine ⟨trivial, _, rfl, fun N hN => ?_⟩
            rw [show m - j = (m - (j + 1)) + 1 by omega, prsR] at he
            walk_at "go"
            refine ⟨r, bs, c, d, rfl, sup_same, ok, hc, fun z e k1 ez => ?_, fun x ez o => ?_⟩
            · rw [ez] at he
              dsimp only at he
              have az := prR_ok ok.2 ez
              refine ⟨by rw [List.length_map]; show _ < 16777216; omega, ?_⟩
              rw [sup_sup]
              refine hN _ _ ⟨zs ++ [z], e, k1, by rw [List.map_append]; rfl, rfl, az.2.2.2, by rw [List.length_append, hz]; rfl, by omega, ?_⟩
              rw [he]
              cases prsR bs (m - (j + 1)) e with
              | error x => rfl
              | ok v =>
                obtain ⟨us, l⟩ := v
                dsimp only
                rw [List.append_assoc]
                rfl
            · rw [ez] at he
              dsimp only at he
              rw [he] at g2
              dsimp only
              rw [sup_sup]
              exact clX.of (g2 x rfl o)
          · rw [Nat.sub_zero]
            cases prsR bs m k with
            | error x => rfl
            | ok v => rfl
          · obtain ⟨zs, c, d, rfl, rfl, hc, hz, hjm, he⟩ := hj
            rw [List.length_range, Nat.zero_add] at hz he
            rw [Nat.sub_self, prsR] at he
            dsimp only at he
            rw [List.append_nil] at he
            rw [he] at g1
            refine ⟨trivial, ?_⟩
            walk_at "go"
            exact clo.of (g1 (.ord zs) c d rfl)
      · rw [e1] at g2
        dsimp only
        rw [sup_sup]
        exact clX.of (g2 x rfl o)
    · have t1 : ∀ {α : Type} (x y : α), (if (2 : Int) = 1 then x else y) = y := fun x y => if_neg (by decide)
      have t2 : ∀ {α : Type} (x y : α), (if (2 : Int) = 2 then x else y) = x := fun x y => if_pos rfl
      simp only [t1, t2] at g1 g2
      walk_at "go"
      refine ⟨r, bs, p + 1, p, _, rfl, sup_same, ok, hlt, fun m k e1 => ?_, fun x e1 o => ?_⟩
      · have e1 : smR bs (p + 1) 4294967295 = .ok (m, k) := e1
        rw [e1] at g1
        walk_at "go"
        simp only [sup_sup]
        exact clo.of (g1 (.out m) k _ rfl)
      · have e1 : smR bs (p + 1) 4294967295 = .error x := e1
        rw [e1] at g2
        dsimp only
        rw [sup_sup]
        exact clX.of (g2 x rfl o)
    · have t1 : ∀ {α : Type} (x y : α), (if (3 : Int) = 1 then x else y) = y := fun x y => if_neg (by decide)
      have t2 : ∀ {α : Type} (x y : α), (if (3 : Int) = 2 then x else y) = y := fun x y => if_neg (by decide)
      have t3 : ∀ {α : Type} (x y : α), (if (3 : Int) = 3 then x else y) = x := fun x y => if_pos rfl
      simp only [t1, t2, t3] at g1 g2
      walk_at "go"
      refine ⟨r, bs, p + 1, p, _, rfl, sup_same, ok, hlt, fun m k e1 => ?_, fun x e1 o => ?_⟩
      · have e1 : smR bs (p + 1) 4294967295 = .ok (m, k) := e1
        rw [e1] at g1
        walk_at "go"
        simp only [sup_sup]
        exact clo.of (g1 (.inn m) k _ rfl)
      · have e1 : smR bs (p + 1) 4294967295 = .error x := e1
        rw [e1] at g2
        dsimp only
        rw [sup_sup]
        exact clX.of (g2 x rfl o)
    · simp only [if_neg n1, if_neg n2, if_neg n3] at g2
      walk_at "go"
      by_cases h1 : 1 ≤ w
      · rw [decide_eq_true h1]
        walk_at "go"
        rw [decide_eq_false (show ¬ w ≤ (([Dt.str "orders", .str "out", .str "in"] : List Dt).length : Int) by show ¬ w ≤ 3; omega)]
        walk_at "go"
        exact clX.of (g2 _ rfl _)
      · rw [decide_eq_false h1]
        walk_at "go"
        exact clX.of (g2 _ rfl _)
  · subst e
    rw [List.getElem?_eq_none (Nat.le_refl _)] at g2
    exact clX.of (g2 _ rfl o)
/-! ### taken_tell -/
def entsR (bs : List Int) : Nat → Nat → Except Nat (List En × Nat)
  | 0, p => .ok ([], p)
  | m + 1, p => match entR bs p with
    | .error x => .error x
    | .ok (z, q) => match entsR bs m q with
      | .error x => .error x
      | .ok (zs, k) => .ok (z :: zs, k)
theorem entsR_ok {bs : List Int} (hb : ∀ b ∈ bs, 0 ≤ b ∧ b ≤ 255) : ∀ {m p : Nat} {zs : List En} {k : Nat}, p ≤ bs.length → entsR bs m p = .ok (zs, k) → zs.length = m ∧ (∀ z ∈ zs, EnOk z) ∧ p + m ≤ k ∧ k ≤ bs.length
  | 0, p, zs, k, hp, h => by
    cases h
    exact ⟨rfl, (fun z hz => nomatch hz), Nat.le_refl _, hp⟩
  | m + 1, p, zs, k, hp, h => by
    unfold entsR at h
    split at h
    · cases h
    · rename_i z q e1
      split at h
      · cases h
      · rename_i us j e2
        cases h
        have a := entR_ok hb e1
        obtain ⟨b1, b2, b3, b4⟩ := entsR_ok hb a.2.2 e2
        refine ⟨by rw [List.length_cons, b1], fun y hy => ?_, by omega, b4⟩
        rcases List.mem_cons.mp hy with rfl | hy
        · exact a.1
        · exact b2 y hy
def ttelR (bs : List Int) (many p : Nat) : Except Nat (Lt × Nat) := match nmsR bs many p with
  | .error x => .error x
  | .ok (cs, k) => match numAt bs k with
    | none => .error k
    | some (f, c1) => match numAt bs (k + c1) with
      | none => .error (k + c1)
      | some (n, c2) => match entsR bs n.toNat (k + c1 + c2) with
        | .error x => .error x
        | .ok (es, j) => .ok (.tell cs f.toNat es, j)
def G_taken_tell (c_Reader c_BadRow : Addr) : Fw := fun ws S Q Ex => ∃ (r : Addr) (bs : List Int) (p q many : Nat), ws = [.int (many : Nat), .ref r] ∧ S r = some (rdO c_Reader bs p q) ∧ RowOk bs ∧ p ≤ bs.length ∧ many ≤ 1000 ∧ (∀ l k j, k ≤ bs.length → ttelR bs many p = .ok (l, k) → Q (ltD l) (sup S r (rdO c_Reader bs k j))) ∧ (∀ x, ttelR bs many p = .error x → ∀ o, Ex ⟨.ref c_BadRow, some (["place"], [.int (x : Nat)])⟩ (sup S r o))
theorem ok_taken_tell (T : Txt P w K mg base c_BadFloor c_NoNumber c_BadRow c_NoRow c_Floor c_Reader) (D : Dfn2 K mg "taken_tell" "taken_tell" s_taken_tell ["many", "reader"]) (C_taken_entry : Cal P w K mg base "taken_entry" 7 ["reader"] 1 (G_taken_entry c_Reader c_BadRow)) (C_Reader_next_number : CalM P w K mg base c_Reader "next_number" 4 ["self"] 1 (G_Reader_next_number c_Reader c_BadRow)) (C_taken_counts : Cal P w K mg base "taken_counts" 5 ["many", "reader"] 2 (G_taken_counts c_Reader c_BadRow)) : Cal P w K mg base "taken_tell" 8 ["many", "reader"] 2 (G_taken_tell c_Reader c_BadRow) := by
  refine cal_of D sc_taken_tell (G_taken_tell c_Reader c_BadRow) rfl fun f cdv A outer s H E hr => ?_
  have hu := hr.units
  refine ⟨_, (jss_cons (js_set (je_cal C_taken_counts (hr.mono (by omega)) takes_def (by rfl) (ja_cons (je_var (pv 0)) (ja_cons (je_var (pv 1)) ja_nil))) (pg_name (i := 2) sc_taken_tell.nd rfl (by first | exact Or.inl rfl | exact Or.inr rfl))) (jss_cons (js_par (i := 3) (j := 4) rfl sc_taken_tell.nd rfl rfl (by decide) rfl rfl (ja_cons (je_method0 (ns0 := ["row", "at", "last"]) C_Reader_next_number (by decide +kernel) (hr.mono (by omega)) takes_def (je_var (pv 1))) (ja_cons (je_method0 (ns0 := ["row", "at", "last"]) C_Reader_next_number (by decide +kernel) (hr.mono (by omega)) takes_def (je_var (pv 1))) ja_nil))) (jss_one (js_ret (je_tup (ja_cons (je_gs (by rfl) T.g_TELL) (ja_cons (je_var (pv 2)) (ja_cons (je_var (pv 3)) (ja_cons (je_callT c_tuple (by rfl) T.n_tuple (by decide +kernel) (ja_cons (je_frz (jl_compX (own := [("turn", 5)]) rfl rfl takes_def rfl sc_taken_tell.nd (ji_rngB (by rfl) T.n_range (ja_cons (je_var (pv 4)) ja_nil)) (blkOk_by (N := N_taken_tell) (sc := defScope s_taken_tell) (by decide +kernel)) binds_name (fun _ _ _ _ _ _ => (pg_name (i := 5) sc_taken_tell.nd rfl (by first | exact Or.inl rfl | exact Or.inr rfl))) (fun _ _ _ _ _ _ => jts_nil) (fun _ _ _ _ _ _ _ tkx => (je_cal C_taken_entry (hr.mono (by omega)) tkx (by rfl) (ja_cons (je_var (pv 1)) ja_nil))))) ja_nil)) ja_nil))))))))), fun ws S Q Ex hl g => ?_⟩
  obtain ⟨r, bs, p, q, many, rfl, hS, ok, hp, hm, g1, g2⟩ := g
  unfold ttelR at g1 g2
  walk_at "go"
  refine ⟨r, bs, p, q, many, rfl, hS, ok, hp, hm, fun cs k j e0 => ?_, fun x e0 o => by rw [e0] at g2; exact clX.of (g2 _ rfl o)⟩
  rw [e0] at g1 g2
  dsimp only at g1 g2
  have a0 := nmsR_ok ok.2 hp e0
  walk_at "go"
  refine ⟨r, bs, k, _, rfl, sup_same, ok, a0.2.2, fun f c1 e1 => ?_, fun e1 o => by rw [e1] at g2; dsimp only; rw [sup_sup]; exact clX.of (g2 _ rfl o)⟩
  rw [e1] at g1 g2
  dsimp only at g1 g2
  have a1 := numAt_in ok.2 e1
  rw [sup_sup]
  walk_at "go"
  refine ⟨r, bs, k + c1, _, rfl, sup_same, ok, by omega, fun n c2 e2 => ?_, fun e2 o => by rw [e2] at g2; dsimp only; rw [sup_sup]; exact clX.of (g2 _ rfl o)⟩
  rw [e2] at g1 g2
  dsimp only at g1 g2
  have a2 := numAt_in ok.2 e2
  rw [sup_sup]
  walk_at "go"
  generalize hN0 : n.toNat = N0 at g1 g2
  generalize k + c1 + c2 = k2 at g1 g2 a2
  have hbl := ok.1
  rw [rangeW_0]
  refine compX_inv (fun i : Nat => .int (i : Nat)) (fun j acc S1 => ∃ (zs : List En) (a b : Nat), acc = zs.map enD ∧ S1 = sup S r (rdO c_Reader bs a b) ∧ k2 + j ≤ a ∧ a ≤ bs.length ∧ zs.length = j ∧ j ≤ N0 ∧ entsR bs N0 k2 = (match entsR bs (N0 - j) a with | .error x => .error x | .ok (us, c) => .ok (zs ++ us, c))) (List.range N0) 0 [] _ (fun j x _ hx acc S1 hj => ?_) ⟨[], k2, _, rfl, rfl, Nat.le_refl _, a2.2.2.2.2, rfl, Nat.zero_le _, ?_⟩ (fun acc S1 hj => ?_)
  · obtain ⟨zs, c, d, rfl, rfl, hc0, hc, hz, hjm, he⟩ := hj
    have hjl : j < N0 := by
      have := (List.getElem?_eq_some_iff.mp hx).1
      rw [List.length_range] at this
      omega
    refine ⟨trivial, _, rfl, fun N hN => ?_⟩
    rw [show N0 - j = (N0 - (j + 1)) + 1 by omega, entsR] at he
    walk_at "go"
    refine ⟨r, bs, c, d, rfl, sup_same, ok, hc, fun z e k1 ez => ?_, fun x ez o => ?_⟩
    · rw [ez] at he
      dsimp only at he
      have az := entR_ok ok.2 ez
      refine ⟨by rw [List.length_map]; show _ < 16777216; omega, ?_⟩
      rw [sup_sup]
      refine hN _ _ ⟨zs ++ [z], e, k1, by rw [List.map_append]; rfl, rfl, by omega, az.2.2, by rw [List.length_append, hz]; rfl, by omega, ?_⟩
      rw [he]
      cases entsR bs (N0 - (j + 1)) e with
      | error x => rfl
      | ok v =>
        obtain ⟨us, l⟩ := v
        dsimp only
        rw [List.append_assoc]
        rfl
    · rw [ez] at he
      dsimp only at he
      rw [he] at g2
      dsimp only
      rw [sup_sup]
      exact clX.of (g2 x rfl o)
  · rw [Nat.sub_zero]
    cases entsR bs N0 k2 with
    | error x => rfl
    | ok v => rfl
  · obtain ⟨zs, c, d, rfl, rfl, hc0, hc, hz, hjm, he⟩ := hj
    rw [List.length_range, Nat.zero_add] at hz he
    rw [Nat.sub_self, entsR] at he
    dsimp only at he
    rw [List.append_nil] at he
    rw [he] at g1
    refine ⟨trivial, ?_⟩
    walk_at "go"
    have g := g1 _ c d hc rfl
    unfold ltD at g
    dsimp only at g
    rw [Int.toNat_of_nonneg a1.1] at g
    exact clo.of g
/-! ### taken_letter -/
def tkLt (many m : Nat) (bs : List Int) : Except Nat (Option Lt) := match bs[0]? with
  | none => .error 0
  | some k => match numAt bs 1 with
    | none => .error 1
    | some (n, c) => if n = (m : Int) then (if k = 1 then (match tsayR bs many (1 + c) with
          | .error x => .error x
          | .ok (l, j) => if j = bs.length then .ok (some l) else .error j)
        else if k = 2 then (match ttelR bs many (1 + c) with
          | .error x => .error x
          | .ok (l, j) => if j = bs.length then .ok (some l) else .error j)
        else .ok none)
      else .ok none
def optLt : Option Lt → Dt
  | none => .non
  | some l => ltD l
def G_taken_letter (c_Reader c_BadRow : Addr) : Fw := fun ws S Q Ex => ∃ (bs : List Int) (many m : Nat), ws = [.int (many : Nat), .int (m : Nat), .tup (bs.map Dt.int)] ∧ RowOk bs ∧ many ≤ 1000 ∧ (∀ o, tkLt many m bs = .ok o → Q (optLt o) S) ∧ (∀ x, tkLt many m bs = .error x → Ex ⟨.ref c_BadRow, some (["place"], [.int (x : Nat)])⟩ S)
theorem ok_taken_letter (T : Txt P w K mg base c_BadFloor c_NoNumber c_BadRow c_NoRow c_Floor c_Reader) (D : Dfn2 K mg "taken_letter" "taken_letter" s_taken_letter ["many", "match", "row"]) (C_Reader_finish : CalM P w K mg base c_Reader "finish" 3 ["self"] 1 (G_Reader_finish c_Reader c_BadRow)) (C_taken_say : Cal P w K mg base "taken_say" 6 ["many", "reader"] 2 (G_taken_say c_Reader c_BadRow)) (C_taken_tell : Cal P w K mg base "taken_tell" 8 ["many", "reader"] 2 (G_taken_tell c_Reader c_BadRow)) (C_Reader_next_number : CalM P w K mg base c_Reader "next_number" 4 ["self"] 1 (G_Reader_next_number c_Reader c_BadRow)) (C_Reader_next_byte : CalM P w K mg base c_Reader "next_byte" 3 ["self"] 1 (G_Reader_next_byte c_Reader c_BadRow)) (C_Reader_init : CalI P w K mg base "Reader" c_Reader 1 ["self", "row", "at"] 3 (G_Reader_init c_Reader)) : Cal P w K mg base "taken_letter" 9 ["many", "match", "row"] 3 (G_taken_letter c_Reader c_BadRow) := by
  refine cal_of D sc_taken_letter (G_taken_letter c_Reader c_BadRow) rfl fun f cdv A outer s H E hr => ?_
  have hu := hr.units
  refine ⟨_, (jss_cons (js_set (je_make C_Reader_init (hr.mono (by omega)) takes_def (by rfl) (ja_cons (je_var (pv 2)) (ja_cons je_int ja_nil))) (pg_name (i := 3) sc_taken_letter.nd rfl (by first | exact Or.inl rfl | exact Or.inr rfl))) (jss_cons (js_set (je_method0 (ns0 := ["row", "at", "last"]) C_Reader_next_byte (by decide +kernel) (hr.mono (by omega)) takes_def (je_var (pv 3))) (pg_name (i := 4) sc_taken_letter.nd rfl (by first | exact Or.inl rfl | exact Or.inr rfl))) (jss_cons (js_if (jt_w (jw_or (jt_cmp (o_ne hu) (je_method0 (ns0 := ["row", "at", "last"]) C_Reader_next_number (by decide +kernel) (hr.mono (by omega)) takes_def (je_var (pv 3))) (je_var (pv 1)) (nomark _)) (jw_one (jt_not (jt_chain o_le o_le je_int (je_var (pv 4)) (je_callB (c_len) (by rfl) T.n_len (by decide +kernel) (ja_cons (je_gt (by rfl) T.gt_KINDS) ja_nil))))))) (jss_one (js_ret je_non)) jss_nil) (jss_cons (js_set (je_if (jt_cmp (o_eq hu) (je_ix o_ix (je_gt (by rfl) T.gt_KINDS) (je_op o_sub (je_var (pv 4)) je_int) (fun _ _ => rfl)) (je_gs (by rfl) T.g_SAY) (nomark _)) (je_cal C_taken_say (hr.mono (by omega)) takes_def (by rfl) (ja_cons (je_var (pv 0)) (ja_cons (je_var (pv 3)) ja_nil))) (je_cal C_taken_tell (hr.mono (by omega)) takes_def (by rfl) (ja_cons (je_var (pv 0)) (ja_cons (je_var (pv 3)) ja_nil)))) (pg_name (i := 5) sc_taken_letter.nd rfl (by first | exact Or.inl rfl | exact Or.inr rfl))) (jss_cons (js_drop (je_method0 (ns0 := ["row", "at", "last"]) C_Reader_finish (by decide +kernel) (hr.mono (by omega)) takes_def (je_var (pv 3)))) (jss_one (js_ret (je_var (pv 5))))))))), fun ws S Q Ex hl g => ?_⟩
  obtain ⟨bs, many, m, rfl, ok, hm, g1, g2⟩ := g
  unfold tkLt at g1 g2
  walk_at "go"
  intro r hr
  have sb : ∀ {o : Ob}, Sub S (sup S r o) := sub_sup hr
  refine ⟨r, S, bs, 0, rfl, rfl, ?_⟩
  walk_at "go"
  refine ⟨r, bs, 0, 0, rfl, sup_same, ok, Nat.zero_le _, fun k e0 => ?_, fun e0 o => ?_⟩
  · rw [e0] at g1 g2
    dsimp only at g1 g2
    have hlt := (List.getElem?_eq_some_iff.mp e0).1
    rw [sup_sup]
    walk_at "go"
    refine ⟨r, bs, 1, _, rfl, sup_same, ok, hlt, fun n c e1 => ?_, fun e1 o => by rw [e1] at g2; dsimp only; rw [sup_sup]; exact clX.sub (g2 _ rfl) sb⟩
    rw [e1] at g1 g2
    dsimp only at g1 g2
    have a1 := numAt_in ok.2 e1
    rw [sup_sup]
    walk_at "go"
    by_cases hn : n = (m : Int)
    · rw [decide_eq_true hn]
      simp only [if_pos hn] at g1 g2
      have hk := ok.2 k (List.mem_of_getElem? e0)
      walk_at "go"
      rcases (show k = 1 ∨ k = 2 ∨ (k ≠ 1 ∧ k ≠ 2) by omega) with rfl | rfl | ⟨n1, n2⟩
      · have t1 : ∀ {α : Type} (x y : α), (if (1 : Int) = 1 then x else y) = x := fun x y => if_pos rfl
        simp only [t1] at g1 g2
        walk_at "go"
        refine ⟨r, bs, 1 + c, _, many, rfl, sup_same, ok, by omega, hm, fun l j q hj e2 => ?_, fun x e2 o => by rw [e2] at g2; dsimp only; rw [sup_sup]; exact clX.sub (g2 _ rfl) sb⟩
        rw [e2] at g1 g2
        dsimp only at g1 g2
        rw [sup_sup]
        walk_at "go"
        refine ⟨r, bs, j, q, rfl, sup_same, hj, fun hj2 => ?_, fun hj2 => ?_⟩
        · walk_at "go"
          exact clo.sub (g1 (some l) (if_pos hj2)) sb
        · exact clX.sub (g2 j (if_neg (show ¬ j = bs.length by omega))) sb
      · have t1 : ∀ {α : Type} (x y : α), (if (2 : Int) = 1 then x else y) = y := fun x y => if_neg (by decide)
        have t2 : ∀ {α : Type} (x y : α), (if (2 : Int) = 2 then x else y) = x := fun x y => if_pos rfl
        simp only [t1, t2] at g1 g2
        walk_at "go"
        refine ⟨r, bs, 1 + c, _, many, rfl, sup_same, ok, by omega, hm, fun l j q hj e2 => ?_, fun x e2 o => by rw [e2] at g2; dsimp only; rw [sup_sup]; exact clX.sub (g2 _ rfl) sb⟩
        rw [e2] at g1 g2
        dsimp only at g1 g2
        rw [sup_sup]
        walk_at "go"
        refine ⟨r, bs, j, q, rfl, sup_same, hj, fun hj2 => ?_, fun hj2 => ?_⟩
        · walk_at "go"
          exact clo.sub (g1 (some l) (if_pos hj2)) sb
        · exact clX.sub (g2 j (if_neg (show ¬ j = bs.length by omega))) sb
      · simp only [if_neg n1, if_neg n2] at g1
        have g := g1 none rfl
        by_cases h1 : 1 ≤ k
        · rw [decide_eq_true h1]
          walk_at "go"
          rw [decide_eq_false (show ¬ k ≤ (([Dt.str "say", .str "tell"] : List Dt).length : Int) by show ¬ k ≤ 2; omega)]
          walk_at "go"
          exact clo.sub g sb
        · rw [decide_eq_false h1]
          walk_at "go"
          exact clo.sub g sb
    · rw [decide_eq_false hn]
      simp only [if_neg hn] at g1
      walk_at "go"
      exact clo.sub (g1 none rfl) sb
  · rw [List.getElem?_eq_none (by omega)] at g2
    dsimp only
    rw [sup_sup]
    exact clX.sub (g2 _ rfl) sb
/-! ### are_counts -/
def G_are_counts : Fw := fun ws S Q _ => ∃ (many : Nat) (w : Dt), ws = [.int (many : Nat), w] ∧ many ≤ 1000 ∧ pl w = true ∧ Q (.bl (ctsW many w)) S
theorem ok_are_counts (T : Txt P w K mg base c_BadFloor c_NoNumber c_BadRow c_NoRow c_Floor c_Reader) (D : Dfn2 K mg "are_counts" "are_counts" s_are_counts ["many", "thing"]) (C_is_below : Cal P w K mg base "is_below" 3 ["thing", "many"] 2 G_is_below) (C_is_sized : Cal P w K mg base "is_sized" 1 ["thing", "least", "most"] 3 G_is_sized) : Cal P w K mg base "are_counts" 4 ["many", "thing"] 2 G_are_counts := by
  refine cal_of D sc_are_counts G_are_counts rfl fun f cdv A outer s H E hr => ?_
  have hu := hr.units
  refine ⟨_, (jss_one (js_ret (je_and (je_cal C_is_sized (hr.mono (by omega)) takes_def (by rfl) (ja_cons (je_var (pv 1)) (ja_cons (je_var (pv 0)) (ja_cons (je_var (pv 0)) ja_nil)))) (je_one (je_callB (c_all rfl) (by rfl) T.n_all (by decide +kernel) (ja_cons (je_frz (jl_comp (own := [("item", 2)]) rfl sc_are_counts.nd (ji_seq (je_var (pv 1))) (blkOk_by (N := N_are_counts) (sc := defScope s_are_counts) (by decide +kernel)) binds_name (fun _ _ _ _ _ => (pg_name (i := 2) sc_are_counts.nd rfl (by first | exact Or.inl rfl | exact Or.inr rfl))) (fun _ _ _ _ _ => jts_nil) (fun _ _ _ _ _ => (je_cal C_is_below (hr.mono (by omega)) takes0 (by rfl) (ja_cons (je_var (pv 2)) (ja_cons (je_gi (by rfl) T.g_MOST_COUNT) ja_nil)))))) ja_nil)))))), fun ws S Q Ex hl g => ?_⟩
  obtain ⟨many, w, rfl, hm, kw, g0⟩ := g
  have g : clo Q (.bl (ctsW many w)) S := clo.of g0
  clear g0
  walk_at "go"
  refine ⟨w, _, _, rfl, kw, ?_⟩
  cases w with
  | tup xs =>
    rw [show szW (.tup xs) (many : Nat) (many : Nat) = (decide ((many : Int) ≤ (xs.length : Int)) && decide ((xs.length : Int) ≤ (many : Int))) from rfl]
    have g : clo Q (.bl (decide (xs.length = many) && xs.all (inW · 0 99999))) S := g
    by_cases hl : xs.length = many
    · rw [decide_eq_true (by omega : (many : Int) ≤ (xs.length : Int)), decide_eq_true (by omega : (xs.length : Int) ≤ (many : Int))]
      rw [decide_eq_true hl] at g
      walk_at "go"
      refine comp_map (fun x => .bl (inW x 0 99999)) xs [] (fun x hx => ?_) (by show 0 + xs.length ≤ 16777216; omega) ?_
      · refine ⟨_, rfl, fun k hk => ?_⟩
        walk_at "go"
        exact ⟨x, _, rfl, kn_pl (pl_tup kw x hx), hk⟩
      · walk_at "go"
        refine ⟨xs.map fun x => inW x 0 99999, by simp, ?_⟩
        rw [List.all_map]
        exact g
    · rw [show (decide ((many : Int) ≤ (xs.length : Int)) && decide ((xs.length : Int) ≤ (many : Int))) = false by
        rw [Bool.and_eq_false_iff, decide_eq_false_iff_not, decide_eq_false_iff_not]
        omega]
      rw [decide_eq_false hl] at g
      walk_at "go"
      exact g
  | _ =>
    walk_at "go"
    exact g
/-! ### is_say -/
def G_is_say : Fw := fun ws S Q _ => ∃ (many : Nat) (r : List Dt) (x : Dt), ws = [.int (many : Nat), .tup (x :: r)] ∧ many ≤ 1000 ∧ pl (.tup (x :: r)) = true ∧ Q (.bl (sayW many r)) S
theorem ok_is_say (T : Txt P w K mg base c_BadFloor c_NoNumber c_BadRow c_NoRow c_Floor c_Reader) (D : Dfn2 K mg "is_say" "is_say" s_is_say ["many", "letter"]) (C_are_counts : Cal P w K mg base "are_counts" 4 ["many", "thing"] 2 G_are_counts) (C_is_below : Cal P w K mg base "is_below" 3 ["thing", "many"] 2 G_is_below) : Cal P w K mg base "is_say" 5 ["many", "letter"] 2 G_is_say := by
  refine cal_of D sc_is_say G_is_say rfl fun f cdv A outer s H E hr => ?_
  have hu := hr.units
  refine ⟨_, (jss_cons (js_if (jt_w (jw_or (jt_cmp (o_ne hu) (je_callB (c_len) (by rfl) T.n_len (by decide +kernel) (ja_cons (je_var (pv 1)) ja_nil)) je_int (nomark _)) (jw_or (jt_not (jt_val (je_cal C_is_below (hr.mono (by omega)) takes_def (by rfl) (ja_cons (je_ix o_ix (je_var (pv 1)) je_int (fun _ _ => rfl)) (ja_cons (je_var (pv 0)) ja_nil))))) (jw_one (jt_not (jt_val (je_cal C_is_below (hr.mono (by omega)) takes_def (by rfl) (ja_cons (je_ix o_ix (je_var (pv 1)) je_int (fun _ _ => rfl)) (ja_cons (je_gi (by rfl) T.g_MOST_COUNT) ja_nil))))))))) (jss_one (js_ret je_bl)) jss_nil) (jss_one (js_ret (je_and (je_cal C_is_below (hr.mono (by omega)) takes_def (by rfl) (ja_cons (je_ix o_ix (je_var (pv 1)) je_int (fun _ _ => rfl)) (ja_cons (je_gi (by rfl) T.g_MOST_COUNT) ja_nil))) (je_and (je_cal C_are_counts (hr.mono (by omega)) takes_def (by rfl) (ja_cons (je_var (pv 0)) (ja_cons (je_ix o_ix (je_var (pv 1)) je_int (fun _ _ => rfl)) ja_nil))) (je_one (je_cmp (o_eq hu) (je_ix o_ix (je_ix o_ix (je_var (pv 1)) je_int (fun _ _ => rfl)) (je_ix o_ix (je_var (pv 1)) je_int (fun _ _ => rfl)) (fun _ _ => rfl)) (je_ix o_ix (je_var (pv 1)) je_int (fun _ _ => rfl)) (nomark _)))))))), fun ws S Q Ex hl g => ?_⟩
  obtain ⟨many, r, x, rfl, hm, kw, g0⟩ := g
  have g : clo Q (.bl (sayW many r)) S := clo.of g0
  clear g0
  have kr : ∀ y ∈ r, pl y = true := fun y hy => pl_tup kw y (List.mem_cons_of_mem _ hy)
  walk_at "go"
  by_cases hl : r.length = 4
  · obtain ⟨a, b, c, d, rfl⟩ := w4 hl
    have ka := kr a (by simp)
    have kb := kr b (by simp)
    have kc := kr c (by simp)
    have kd := kr d (by simp)
    have g : clo Q (.bl (inW a 0 ((many : Int) - 1) && (inW b 0 99999 && (inW c 0 99999 && (ctsW many d && sayE a d c))))) S := g
    walk_at "go"
    refine ⟨a, _, rfl, kn_pl ka, ?_⟩
    cases ha : inW a 0 ((many : Int) - 1) with
    | false =>
      rw [ha] at g
      walk_at "go"
      exact g
    | true =>
      rw [ha] at g
      walk_at "go"
      refine ⟨b, _, rfl, kn_pl kb, ?_⟩
      rw [show inW b 0 (100000 - 1) = inW b 0 99999 from rfl]
      cases hb : inW b 0 99999 with
      | false =>
        rw [hb] at g
        walk_at "go"
        exact g
      | true =>
        rw [hb] at g
        walk_at "go"
        refine ⟨c, _, rfl, kn_pl kc, ?_⟩
        rw [show inW c 0 (100000 - 1) = inW c 0 99999 from rfl]
        cases hc : inW c 0 99999 with
        | false =>
          rw [hc] at g
          walk_at "go"
          exact g
        | true =>
          rw [hc] at g
          walk_at "go"
          refine ⟨many, d, rfl, hm, kd, ?_⟩
          cases hd : ctsW many d with
          | false =>
            rw [hd] at g
            walk_at "go"
            exact g
          | true =>
            rw [hd] at g
            obtain ⟨cs, rfl, hcl, hcm⟩ := cts_iff.mp hd
            obtain ⟨i, rfl, i0, i1⟩ := inW_of ha
            obtain ⟨k, rfl, k0, k1⟩ := inW_of hc
            have g : clo Q (.bl (sayE (.int i) (.tup (lotW cs)) (.int k))) S := g
            unfold sayE at g
            dsimp only at g
            obtain ⟨c1, hc1⟩ : ∃ c1, cs[i.toNat]? = some c1 := ⟨_, List.getElem?_eq_getElem (by omega)⟩
            have e2 : (lotW cs)[i.toNat]? = some (.int (c1 : Nat)) := by rw [show (lotW cs)[i.toNat]? = (cs[i.toNat]?).map fun c => Dt.int (c : Nat) from List.getElem?_map .., hc1]; rfl
            rw [e2] at g
            walk_at "go"
            rw [show atI (lotW cs) i = some (.int (c1 : Nat)) by rw [Dn.atI_get i0]; exact e2]
            walk_at "go"
            exact g
  · rw [show sayW many r = false by
      unfold sayW
      split
      · exact absurd rfl hl
      · rfl] at g
    walk_at "go"
    rw [decide_eq_false (show ¬ (((x :: r).length : Nat) : Int) = 5 by rw [List.length_cons]; omega)]
    walk_at "go"
    exact g
/-! ### is_pair -/
def G_is_pair : Fw := fun ws S Q _ => ∃ w, ws = [w] ∧ pl w = true ∧ Q (.bl (szW w 2 2)) S
theorem ok_is_pair (T : Txt P w K mg base c_BadFloor c_NoNumber c_BadRow c_NoRow c_Floor c_Reader) (D : Dfn2 K mg "is_pair" "is_pair" s_is_pair ["thing"]) (C_is_sized : Cal P w K mg base "is_sized" 1 ["thing", "least", "most"] 3 G_is_sized) : Cal P w K mg base "is_pair" 2 ["thing"] 1 G_is_pair := by
  refine cal_of D sc_is_pair G_is_pair rfl fun f cdv A outer s H E hr => ?_
  have hu := hr.units
  refine ⟨_, (jss_one (js_ret (je_cal C_is_sized (hr.mono (by omega)) takes_def (by rfl) (ja_cons (je_var (pv 0)) (ja_cons je_int (ja_cons je_int ja_nil)))))), fun ws S Q Ex hl g => ?_⟩
  obtain ⟨w, rfl, kw, g⟩ := g
  walk_at "go"
  exact ⟨w, 2, 2, rfl, kw, clo.of g⟩
/-! ### are_pairs -/
theorem szW_two {w : Dt} (h : szW w 2 2 = true) : ∃ a b, w = .tup [a, b] := by
  cases w with
  | tup xs =>
    have h : (decide ((2 : Int) ≤ (xs.length : Int)) && decide ((xs.length : Int) ≤ 2)) = true := h
    rw [Bool.and_eq_true, decide_eq_true_iff, decide_eq_true_iff] at h
    obtain ⟨a, b, rfl⟩ := w2 (ws := xs) (by omega)
    exact ⟨a, b, rfl⟩
  | _ => cases h
/-- tuples of two -/
def twos : List Dt → Option (List (Dt × Dt))
  | [] => some []
  | .tup [a, b] :: ws => (twos ws).map ((a, b) :: ·)
  | _ :: _ => none
theorem twos_all : ∀ {ws : List Dt}, (ws.all fun w => szW w 2 2) = (twos ws).isSome
  | [] => rfl
  | w :: ws => by
    rw [List.all_cons, twos_all (ws := ws)]
    cases h : szW w 2 2 with
    | true =>
      obtain ⟨a, b, rfl⟩ := szW_two h
      rw [twos, Option.isSome_map]
      rfl
    | false =>
      have : twos (w :: ws) = none := by
        unfold twos
        split
        · rename_i q; cases q
        · rename_i a b us q
          cases q
          cases h
        · rfl
      rw [this]
      rfl
theorem twos_eq : ∀ {ws : List Dt} {ps : List (Dt × Dt)}, twos ws = some ps → ws = ps.map fun p => .tup [p.1, p.2]
  | [], ps, h => by cases h; rfl
  | w :: ws, ps, h => by
    unfold twos at h
    split at h
    · rename_i q; cases q
    · rename_i a b us q
      cases q
      rw [Option.map_eq_some_iff] at h
      obtain ⟨qs, e, rfl⟩ := h
      rw [List.map_cons, twos_eq e]
    · cases h
theorem prOf_two {a b : Dt} : (prOf (.tup [a, b])).isSome = (inW a 0 4294967295 && inW b 0 4294967295) := by
  cases ha : inW a 0 4294967295 with
  | true =>
    obtain ⟨i, rfl, h0, h1⟩ := inW_of ha
    cases hb : inW b 0 4294967295 with
    | true =>
      obtain ⟨j, rfl, g0, g1⟩ := inW_of hb
      rw [prOf, if_pos ⟨⟨h0, by omega⟩, g0, by omega⟩]
      rfl
    | false =>
      cases b with
      | int j =>
        have := inW_not hb j rfl
        rw [prOf, if_neg fun z => this ⟨z.2.1, by omega⟩]
        rfl
      | _ => rfl
  | false =>
    cases a with
    | int i =>
      have := inW_not ha i rfl
      cases b with
      | int j =>
        rw [prOf, if_neg fun z => this ⟨z.1.1, by omega⟩]
        rfl
      | _ => rfl
    | _ => rfl
theorem prsOf_all : ∀ {ws : List Dt}, (prsOf ws).isSome = ws.all fun w => (prOf w).isSome
  | [] => rfl
  | w :: ws => by
    rw [List.all_cons, ← prsOf_all (ws := ws), prsOf]
    cases prOf w with
    | none => rfl
    | some p =>
      cases prsOf ws with
      | none => rfl
      | some ps => rfl
def prsW : Dt → Bool
  | .tup ps => decide (1 ≤ ps.length ∧ ps.length ≤ 6) && (prsOf ps).isSome
  | _ => false
def G_are_pairs : Fw := fun ws S Q _ => ∃ w, ws = [w] ∧ pl w = true ∧ Q (.bl (prsW w)) S
theorem ok_are_pairs (T : Txt P w K mg base c_BadFloor c_NoNumber c_BadRow c_NoRow c_Floor c_Reader) (D : Dfn2 K mg "are_pairs" "are_pairs" s_are_pairs ["thing"]) (C_is_below : Cal P w K mg base "is_below" 3 ["thing", "many"] 2 G_is_below) (C_is_pair : Cal P w K mg base "is_pair" 2 ["thing"] 1 G_is_pair) (C_is_sized : Cal P w K mg base "is_sized" 1 ["thing", "least", "most"] 3 G_is_sized) : Cal P w K mg base "are_pairs" 4 ["thing"] 1 G_are_pairs := by
  refine cal_of D sc_are_pairs G_are_pairs rfl fun f cdv A outer s H E hr => ?_
  have hu := hr.units
  refine ⟨_, (jss_cons (js_if (jt_w (jw_or (jt_not (jt_val (je_cal C_is_sized (hr.mono (by omega)) takes_def (by rfl) (ja_cons (je_var (pv 0)) (ja_cons je_int (ja_cons (je_gi (by rfl) T.g_MOST_ORDERS_AT_ONCE) ja_nil)))))) (jw_one (jt_not (jt_val (je_callB (c_all rfl) (by rfl) T.n_all (by decide +kernel) (ja_cons (je_frz (jl_comp (own := [("item", 3)]) rfl sc_are_pairs.nd (ji_seq (je_var (pv 0))) (blkOk_by (N := N_are_pairs) (sc := defScope s_are_pairs) (by decide +kernel)) binds_name (fun _ _ _ _ _ => (pg_name (i := 3) sc_are_pairs.nd rfl (by first | exact Or.inl rfl | exact Or.inr rfl))) (fun _ _ _ _ _ => jts_nil) (fun _ _ _ _ _ => (je_cal C_is_pair (hr.mono (by omega)) takes0 (by rfl) (ja_cons (je_var (pv 3)) ja_nil))))) ja_nil))))))) (jss_one (js_ret je_bl)) jss_nil) (jss_one (js_ret (je_callB (c_all rfl) (by rfl) T.n_all (by decide +kernel) (ja_cons (je_frz (jl_comp (own := [("one", 1), ("other", 2)]) rfl sc_are_pairs.nd (ji_seq (je_var (pv 0))) (blkOk_by (N := N_are_pairs) (sc := defScope s_are_pairs) (by decide +kernel)) (binds_pair (by decide)) (fun _ _ _ _ _ => (pg_tup rfl (pgs_cons (pg_name (i := 1) sc_are_pairs.nd rfl (by first | exact Or.inl rfl | exact Or.inr rfl)) (pgs_cons (pg_name (i := 2) sc_are_pairs.nd rfl (by first | exact Or.inl rfl | exact Or.inr rfl)) pgs_nil)))) (fun _ _ _ _ _ => jts_nil) (fun _ _ _ _ _ => (je_and (je_cal C_is_below (hr.mono (by omega)) takes0 (by rfl) (ja_cons (je_var (pv 1)) (ja_cons (je_gi (by rfl) T.g_MOST_NUMBER) ja_nil))) (je_one (je_cal C_is_below (hr.mono (by omega)) takes0 (by rfl) (ja_cons (je_var (pv 2)) (ja_cons (je_gi (by rfl) T.g_MOST_NUMBER) ja_nil)))))))) ja_nil))))), fun ws S Q Ex hl g => ?_⟩
  obtain ⟨w, rfl, kw, g⟩ := g
  have g : clo Q (.bl (prsW w)) S := clo.of g
  walk_at "go"
  refine ⟨w, 1, 6, rfl, kw, ?_⟩
  cases w with
  | tup xs =>
    rw [show szW (.tup xs) 1 6 = (decide ((1 : Int) ≤ (xs.length : Int)) && decide ((xs.length : Int) ≤ 6)) from rfl]
    have g : clo Q (.bl (decide (1 ≤ xs.length ∧ xs.length ≤ 6) && (prsOf xs).isSome)) S := g
    by_cases hl : 1 ≤ xs.length ∧ xs.length ≤ 6
    · rw [decide_eq_true (by omega : (1 : Int) ≤ (xs.length : Int)), decide_eq_true (by omega : (xs.length : Int) ≤ 6)]
      rw [decide_eq_true hl] at g
      walk_at "go"
      refine comp_map (fun x => .bl (szW x 2 2)) xs [] (fun x hx => ?_) (by show 0 + xs.length ≤ 16777216; omega) ?_
      · refine ⟨_, rfl, fun k hk => ?_⟩
        walk_at "go"
        exact ⟨x, rfl, pl_tup kw x hx, hk⟩
      · walk_at "go"
        refine ⟨xs.map fun x => szW x 2 2, by simp, ?_⟩
        rw [List.all_map, show (xs.all (id ∘ fun x => szW x 2 2)) = (twos xs).isSome from twos_all]
        cases ht : twos xs with
        | none =>
          have : (prsOf xs).isSome = false := by
            rw [prsOf_all]
            have t : (xs.all fun w => szW w 2 2) = false := by rw [twos_all, ht]; rfl
            rw [List.all_eq_false] at t ⊢
            obtain ⟨x, h1, h2⟩ := t
            refine ⟨x, h1, fun z => h2 ?_⟩
            obtain ⟨p, hp⟩ := Option.isSome_iff_exists.mp z
            rw [(prOf_some hp).1]
            rfl
          rw [this] at g
          walk_at "go"
          exact g
        | some ps =>
          have e := twos_eq ht
          subst e
          have hl : ps.length ≤ 6 := by have := hl.2; rwa [List.length_map] at this
          walk_at "go"
          refine comp_all (fun p : Dt × Dt => .tup [p.1, p.2]) (fun p => .bl (inW p.1 0 4294967295 && inW p.2 0 4294967295)) ps trivial (fun p hp => ?_) (by show _ ≤ 16777216; omega) ?_
          · have pp := pl_tup kw _ (List.mem_map_of_mem hp)
            have p1 := pl_tup pp p.1 (by simp)
            have p2 := pl_tup pp p.2 (by simp)
            refine ⟨_, rfl, fun k q => ?_⟩
            walk_at "go"
            refine ⟨p.1, _, rfl, kn_pl p1, ?_⟩
            rw [show ((4294967296 : Int) - 1) = 4294967295 from rfl]
            cases h1 : inW p.1 0 4294967295 with
            | true =>
              rw [h1] at q
              walk_at "go"
              refine ⟨p.2, _, rfl, kn_pl p2, ?_⟩
              exact q
            | false =>
              rw [h1] at q
              walk_at "go"
              exact q
          · walk_at "go"
            refine ⟨ps.map fun p => (inW p.1 0 4294967295 && inW p.2 0 4294967295), by rw [List.map_map]; rfl, ?_⟩
            rw [List.all_map, show (ps.all (id ∘ fun p : Dt × Dt => inW p.1 0 4294967295 && inW p.2 0 4294967295)) = (prsOf (ps.map fun p => .tup [p.1, p.2])).isSome by
              rw [prsOf_all, List.all_map]
              congr 1
              funext p
              exact prOf_two.symm]
            exact g
    · have e : (decide ((1 : Int) ≤ (xs.length : Int)) && decide ((xs.length : Int) ≤ 6)) = false := by
        rw [Bool.and_eq_false_iff, decide_eq_false_iff_not, decide_eq_false_iff_not]
        omega
      rw [e]
      rw [decide_eq_false hl] at g
      walk_at "go"
      exact g
  | _ =>
    walk_at "go"
    exact g
/-! ### has_form -/
def formW (w : Dt) : Bool := (enOf w).isSome
theorem formW_ne {w : Dt} (h : szW w 2 2 = false) : formW w = false := by
  unfold formW enOf
  split
  · cases h
  · rfl
theorem formW_no {a b : Dt} (h : isS a = false) : formW (.tup [a, b]) = false := by
  cases a with
  | str z => cases h
  | _ => rfl
theorem formW_ord {b : Dt} : formW (.tup [.str "orders", b]) = prsW b := by
  cases b with
  | tup ps =>
    show ((if 1 ≤ ps.length ∧ ps.length ≤ 6 then (prsOf ps).map En.ord else none)).isSome = (decide (1 ≤ ps.length ∧ ps.length ≤ 6) && (prsOf ps).isSome)
    by_cases h : 1 ≤ ps.length ∧ ps.length ≤ 6
    · rw [if_pos h, decide_eq_true h, Option.isSome_map]
      rfl
    · rw [if_neg h, decide_eq_false h]
      rfl
  | _ => rfl
theorem formW_two {z : Str} {b : Dt} (h : z = "out" ∨ z = "in") : formW (.tup [.str z, b]) = inW b 0 4294967295 := by
  rcases h with rfl | rfl
  · show ((if inW b 0 4294967295 = true then some (En.out (match b with | .int i => i.toNat | _ => 0)) else none)).isSome = _
    cases inW b 0 4294967295 <;> rfl
  · show ((if inW b 0 4294967295 = true then some (En.inn (match b with | .int i => i.toNat | _ => 0)) else none)).isSome = _
    cases inW b 0 4294967295 <;> rfl
theorem formW_else {z : Str} {b : Dt} (h : z ≠ "orders") (h2 : z ≠ "out") (h3 : z ≠ "in") : formW (.tup [.str z, b]) = false := by
  unfold formW enOf
  split
  · rename_i z2 x q
    cases q
    rw [if_neg h, if_neg h2, if_neg h3]
    rfl
  · rename_i q
    exact (q z b rfl).elim
def G_has_form : Fw := fun ws S Q _ => ∃ w, ws = [w] ∧ pl w = true ∧ Q (.bl (formW w)) S
theorem ok_has_form (T : Txt P w K mg base c_BadFloor c_NoNumber c_BadRow c_NoRow c_Floor c_Reader) (D : Dfn2 K mg "has_form" "has_form" s_has_form ["thing"]) (C_are_pairs : Cal P w K mg base "are_pairs" 4 ["thing"] 1 G_are_pairs) (C_is_below : Cal P w K mg base "is_below" 3 ["thing", "many"] 2 G_is_below) (C_is_sized : Cal P w K mg base "is_sized" 1 ["thing", "least", "most"] 3 G_is_sized) : Cal P w K mg base "has_form" 5 ["thing"] 1 G_has_form := by
  refine cal_of D sc_has_form G_has_form rfl fun f cdv A outer s H E hr => ?_
  have hu := hr.units
  refine ⟨_, (jss_cons (js_if (jt_w (jw_or (jt_not (jt_val (je_cal C_is_sized (hr.mono (by omega)) takes_def (by rfl) (ja_cons (je_var (pv 0)) (ja_cons je_int (ja_cons je_int ja_nil)))))) (jw_or (jt_not (jt_val (je_callB (c_isi) (by rfl) T.n_isinstance (by decide +kernel) (ja_cons (je_ix o_ix (je_var (pv 0)) je_int (fun _ _ => rfl)) (ja_cons (je_bty (T := "str") (by rfl) T.n_str (by decide +kernel)) ja_nil))))) (jw_one (jt_cmp (o_notin hu) (je_ix o_ix (je_var (pv 0)) je_int (fun _ _ => rfl)) (je_gt (by rfl) T.gt_WORDS) (by rfl)))))) (jss_one (js_ret je_bl)) jss_nil) (jss_one (js_ret (je_if (jt_cmp (o_eq hu) (je_ix o_ix (je_var (pv 0)) je_int (fun _ _ => rfl)) (je_gs (by rfl) T.g_ORDERS) (nomark _)) (je_cal C_are_pairs (hr.mono (by omega)) takes_def (by rfl) (ja_cons (je_ix o_ix (je_var (pv 0)) je_int (fun _ _ => rfl)) ja_nil)) (je_cal C_is_below (hr.mono (by omega)) takes_def (by rfl) (ja_cons (je_ix o_ix (je_var (pv 0)) je_int (fun _ _ => rfl)) (ja_cons (je_gi (by rfl) T.g_MOST_NUMBER) ja_nil))))))), fun ws S Q Ex hl g => ?_⟩
  obtain ⟨w, rfl, kw, g⟩ := g
  have g : clo Q (.bl (formW w)) S := clo.of g
  walk_at "go"
  refine ⟨w, 2, 2, rfl, kw, ?_⟩
  cases hs : szW w 2 2 with
  | false =>
    rw [formW_ne hs] at g
    walk_at "go"
    exact g
  | true =>
    obtain ⟨a, b, rfl⟩ := szW_two hs
    have ka := pl_tup kw a (by simp)
    have kb := pl_tup kw b (by simp)
    obtain ⟨t, kt⟩ := kn_pl (S := S) ka
    walk_at "go"
    simp only [kt, kS kt]
    cases hz : isS a with
    | false =>
      rw [formW_no hz] at g
      walk_at "go"
      exact g
    | true =>
      obtain ⟨z, rfl⟩ : ∃ z, a = .str z := by cases a with | str z => exact ⟨z, rfl⟩ | _ => cases hz
      walk_at "go"
      refine ⟨⟨rfl, rfl⟩, ?_⟩
      have pick : z = "orders" ∨ z = "out" ∨ z = "in" ∨ (z ≠ "orders" ∧ z ≠ "out" ∧ z ≠ "in") := by
        by_cases h1 : z = "orders"
        · exact .inl h1
        by_cases h2 : z = "out"
        · exact .inr (.inl h2)
        by_cases h3 : z = "in"
        · exact .inr (.inr (.inl h3))
        exact .inr (.inr (.inr ⟨h1, h2, h3⟩))
      rcases pick with rfl | rfl | rfl | ⟨h1, h2, h3⟩
      · rw [formW_ord] at g
        walk_at "go"
        exact ⟨b, rfl, kb, g⟩
      · rw [formW_two (.inl rfl)] at g
        walk_at "go"
        exact ⟨b, _, rfl, kn_pl kb, g⟩
      · rw [formW_two (.inr rfl)] at g
        walk_at "go"
        exact ⟨b, _, rfl, kn_pl kb, g⟩
      · rw [formW_else h1 h2 h3] at g
        have hm : memW (.str z) [.str "orders", .str "out", .str "in"] = false := by
          show (decide (("orders" : Str) = z) || (decide (("out" : Str) = z) || (decide (("in" : Str) = z) || false))) = false
          rw [decide_eq_false (Ne.symm h1), decide_eq_false (Ne.symm h2), decide_eq_false (Ne.symm h3)]
          rfl
        rw [hm]
        walk_at "go"
        exact g
/-! ### is_small_entry -/
def G_is_small_entry : Fw := fun ws S Q _ => ∃ w, ws = [w] ∧ pl w = true ∧ Q (.bl (smW w)) S
theorem ok_is_small_entry (T : Txt P w K mg base c_BadFloor c_NoNumber c_BadRow c_NoRow c_Floor c_Reader) (D : Dfn2 K mg "is_small_entry" "is_small_entry" s_is_small_entry ["thing"]) (C_has_form : Cal P w K mg base "has_form" 5 ["thing"] 1 G_has_form) : Cal P w K mg base "is_small_entry" 6 ["thing"] 1 G_is_small_entry := by
  refine cal_of D sc_is_small_entry G_is_small_entry rfl fun f cdv A outer s H E hr => ?_
  have hu := hr.units
  refine ⟨_, (jss_cons (js_if (jt_not (jt_val (je_cal C_has_form (hr.mono (by omega)) takes_def (by rfl) (ja_cons (je_var (pv 0)) ja_nil)))) (jss_one (js_ret je_bl)) jss_nil) (jss_cons (js_set (je_if (jt_cmp (o_ne hu) (je_ix o_ix (je_var (pv 0)) je_int (fun _ _ => rfl)) (je_gs (by rfl) T.g_ORDERS) (nomark _)) (je_frz (jl_lst (ja_cons (je_ix o_ix (je_var (pv 0)) je_int (fun _ _ => rfl)) ja_nil))) (je_frz (jl_comp (own := [("pair", 2)]) rfl sc_is_small_entry.nd (ji_seq (je_ix o_ix (je_var (pv 0)) je_int (fun _ _ => rfl))) (blkOk_by (N := N_is_small_entry) (sc := defScope s_is_small_entry) (by decide +kernel)) binds_name (fun _ _ _ _ _ => (pg_name (i := 2) sc_is_small_entry.nd rfl (by first | exact Or.inl rfl | exact Or.inr rfl))) (fun _ _ _ _ _ => jts_nil) (fun _ _ _ _ _ => (je_callB (c_maxT rfl hu) (by rfl) T.n_max (by decide +kernel) (ja_cons (je_var (pv 2)) ja_nil)))))) (pg_name (i := 1) sc_is_small_entry.nd rfl (by first | exact Or.inl rfl | exact Or.inr rfl))) (jss_one (js_ret (je_cmp o_lt (je_callB (c_maxT rfl hu) (by rfl) T.n_max (by decide +kernel) (ja_cons (je_var (pv 1)) ja_nil)) (je_gi (by rfl) T.g_MOST_COUNT) (nomark _)))))), fun ws S Q Ex hl g => ?_⟩
  obtain ⟨w, rfl, kw, g0⟩ := g
  have g : clo Q (.bl (smW w)) S := clo.of g0
  clear g0
  unfold smW at g
  walk_at "go"
  refine ⟨w, rfl, kw, ?_⟩
  unfold formW
  cases he : enOf w with
  | none =>
    rw [he] at g
    walk_at "go"
    exact g
  | some e =>
    rw [he] at g
    obtain ⟨rfl, ok⟩ := enOf_some he
    cases e with
    | ord ps =>
      obtain ⟨h1, h2, h3⟩ := ok
      have g : clo Q (.bl (ps.all fun p => decide (p.1 < 100000 ∧ p.2 < 100000))) S := g
      walk_at "go"
      refine comp_all prD (fun p => .int ((max p.1 p.2 : Nat) : Int)) ps trivial (fun p hp => ⟨_, rfl, fun k q => ?_⟩) (by show _ ≤ 16777216; omega) ?_
      · walk_at "go"
        refine ⟨[(p.1 : Nat), (p.2 : Nat)], rfl, Nat.le_of_ble_eq_true rfl, fun m hm hy => ?_⟩
        have a1 := hy (p.1 : Nat) (by simp)
        have a2 := hy (p.2 : Nat) (by simp)
        have e : m = ((max p.1 p.2 : Nat) : Int) := by
          simp only [List.mem_cons, List.not_mem_nil, or_false] at hm
          omega
        rw [e]
        exact q
      · walk_at "go"
        refine ⟨ps.map fun p => ((max p.1 p.2 : Nat) : Int), by rw [List.map_map]; rfl, by rw [List.length_map]; exact h1, fun m hm hy => ?_⟩
        rw [show (ps.all fun p => decide (p.1 < 100000 ∧ p.2 < 100000)) = decide (m < 100000) by
          rw [Bool.eq_iff_iff, List.all_eq_true, decide_eq_true_iff]
          obtain ⟨p, hp, rfl⟩ := List.mem_map.mp hm
          constructor
          · intro h
            have := of_decide_eq_true (h p hp)
            omega
          · intro h q hq
            have := hy _ (List.mem_map_of_mem hq)
            exact decide_eq_true (by omega)] at g
        walk_at "go"
        exact g
    | out n =>
      walk_at "go"
      refine ⟨[(n : Int)], rfl, Nat.le_of_ble_eq_true rfl, fun m hm hy => ?_⟩
      rw [List.mem_singleton] at hm
      subst hm
      have g : clo Q (.bl (decide (n < 100000))) S := g
      rw [show decide (n < 100000) = decide ((n : Int) < 100000) by rw [Bool.eq_iff_iff, decide_eq_true_iff, decide_eq_true_iff]; omega] at g
      walk_at "go"
      exact g
    | inn n =>
      walk_at "go"
      refine ⟨[(n : Int)], rfl, Nat.le_of_ble_eq_true rfl, fun m hm hy => ?_⟩
      rw [List.mem_singleton] at hm
      subst hm
      have g : clo Q (.bl (decide (n < 100000))) S := g
      rw [show decide (n < 100000) = decide ((n : Int) < 100000) by rw [Bool.eq_iff_iff, decide_eq_true_iff, decide_eq_true_iff]; omega] at g
      walk_at "go"
      exact g
/-! ### is_tell -/
def G_is_tell : Fw := fun ws S Q _ => ∃ (many : Nat) (r : List Dt) (x : Dt), ws = [.int (many : Nat), .tup (x :: r)] ∧ many ≤ 1000 ∧ pl (.tup (x :: r)) = true ∧ Q (.bl (telW many r)) S
theorem ok_is_tell (T : Txt P w K mg base c_BadFloor c_NoNumber c_BadRow c_NoRow c_Floor c_Reader) (D : Dfn2 K mg "is_tell" "is_tell" s_is_tell ["many", "letter"]) (C_is_small_entry : Cal P w K mg base "is_small_entry" 6 ["thing"] 1 G_is_small_entry) (C_is_sized : Cal P w K mg base "is_sized" 1 ["thing", "least", "most"] 3 G_is_sized) (C_is_below : Cal P w K mg base "is_below" 3 ["thing", "many"] 2 G_is_below) (C_are_counts : Cal P w K mg base "are_counts" 4 ["many", "thing"] 2 G_are_counts) : Cal P w K mg base "is_tell" 7 ["many", "letter"] 2 G_is_tell := by
  refine cal_of D sc_is_tell G_is_tell rfl fun f cdv A outer s H E hr => ?_
  have hu := hr.units
  refine ⟨_, (jss_cons (js_if (jt_w (jw_or (jt_cmp (o_ne hu) (je_callB (c_len) (by rfl) T.n_len (by decide +kernel) (ja_cons (je_var (pv 1)) ja_nil)) je_int (nomark _)) (jw_or (jt_not (jt_val (je_cal C_are_counts (hr.mono (by omega)) takes_def (by rfl) (ja_cons (je_var (pv 0)) (ja_cons (je_ix o_ix (je_var (pv 1)) je_int (fun _ _ => rfl)) ja_nil))))) (jw_one (jt_not (jt_val (je_cal C_is_below (hr.mono (by omega)) takes_def (by rfl) (ja_cons (je_ix o_ix (je_var (pv 1)) je_int (fun _ _ => rfl)) (ja_cons (je_gi (by rfl) T.g_MOST_COUNT) ja_nil))))))))) (jss_one (js_ret je_bl)) jss_nil) (jss_one (js_ret (je_and (je_cal C_is_sized (hr.mono (by omega)) takes_def (by rfl) (ja_cons (je_ix o_ix (je_var (pv 1)) je_int (fun _ _ => rfl)) (ja_cons je_int (ja_cons (je_gi (by rfl) T.g_MOST_TOLD) ja_nil)))) (je_one (je_callB (c_all rfl) (by rfl) T.n_all (by decide +kernel) (ja_cons (je_frz (jl_comp (own := [("entry", 2)]) rfl sc_is_tell.nd (ji_seq (je_ix o_ix (je_var (pv 1)) je_int (fun _ _ => rfl))) (blkOk_by (N := N_is_tell) (sc := defScope s_is_tell) (by decide +kernel)) binds_name (fun _ _ _ _ _ => (pg_name (i := 2) sc_is_tell.nd rfl (by first | exact Or.inl rfl | exact Or.inr rfl))) (fun _ _ _ _ _ => jts_nil) (fun _ _ _ _ _ => (je_cal C_is_small_entry (hr.mono (by omega)) takes0 (by rfl) (ja_cons (je_var (pv 2)) ja_nil))))) ja_nil))))))), fun ws S Q Ex hl g => ?_⟩
  obtain ⟨many, r, x, rfl, hm, kw, g0⟩ := g
  have g : clo Q (.bl (telW many r)) S := clo.of g0
  clear g0
  have kr : ∀ y ∈ r, pl y = true := fun y hy => pl_tup kw y (List.mem_cons_of_mem _ hy)
  walk_at "go"
  by_cases hl : r.length = 3
  · obtain ⟨a, b, d, rfl⟩ := w3 hl
    have ka := kr a (by simp)
    have kb := kr b (by simp)
    have kd := kr d (by simp)
    walk_at "go"
    refine ⟨many, a, rfl, hm, ka, ?_⟩
    cases ha : ctsW many a with
    | false =>
      rw [show telW many [a, b, d] = false by unfold telW; split <;> first | (rename_i q; cases q; rw [ha]; rfl) | rfl] at g
      walk_at "go"
      exact g
    | true =>
      walk_at "go"
      refine ⟨b, _, rfl, kn_pl kb, ?_⟩
      rw [show inW b 0 (100000 - 1) = inW b 0 99999 from rfl]
      cases hb : inW b 0 99999 with
      | false =>
        rw [show telW many [a, b, d] = false by unfold telW; split <;> first | (rename_i q; cases q; rw [ha, hb]; rfl) | rfl] at g
        walk_at "go"
        exact g
      | true =>
        walk_at "go"
        refine ⟨d, _, _, rfl, kd, ?_⟩
        cases d with
        | tup es =>
          have g : clo Q (.bl (ctsW many a && (inW b 0 99999 && (decide (es.length ≤ 60) && es.all smW)))) S := g
          rw [ha, hb] at g
          rw [show szW (.tup es) 0 60 = (decide ((0 : Int) ≤ (es.length : Int)) && decide ((es.length : Int) ≤ 60)) from rfl, decide_eq_true (by omega : (0 : Int) ≤ (es.length : Int))]
          by_cases h6 : es.length ≤ 60
          · rw [decide_eq_true (by omega : (es.length : Int) ≤ 60)]
            rw [decide_eq_true h6] at g
            walk_at "go"
            refine comp_map (fun x => .bl (smW x)) es [] (fun x hx => ?_) (by show 0 + es.length ≤ 16777216; omega) ?_
            · refine ⟨_, rfl, fun k hk => ?_⟩
              walk_at "go"
              exact ⟨x, rfl, pl_tup kd x hx, hk⟩
            · walk_at "go"
              refine ⟨es.map fun x => smW x, by simp, ?_⟩
              rw [List.all_map]
              exact g
          · rw [decide_eq_false (by omega : ¬ (es.length : Int) ≤ 60)]
            rw [decide_eq_false h6] at g
            walk_at "go"
            exact g
        | _ =>
          walk_at "go"
          exact g
  · rw [show telW many r = false by
      unfold telW
      split
      · exact absurd rfl hl
      · rfl] at g
    walk_at "go"
    rw [decide_eq_false (show ¬ (((x :: r).length : Nat) : Int) = 4 by rw [List.length_cons]; omega)]
    walk_at "go"
    exact g
/-! ### is_letter -/
def G_is_letter : Fw := fun ws S Q _ => ∃ (many : Nat) (w : Dt), ws = [.int (many : Nat), w] ∧ many ≤ 1000 ∧ pl w = true ∧ Q (.bl (isLt many w)) S
theorem ok_is_letter (T : Txt P w K mg base c_BadFloor c_NoNumber c_BadRow c_NoRow c_Floor c_Reader) (D : Dfn2 K mg "is_letter" "is_letter" s_is_letter ["many", "thing"]) (C_is_tell : Cal P w K mg base "is_tell" 7 ["many", "letter"] 2 G_is_tell) (C_is_say : Cal P w K mg base "is_say" 5 ["many", "letter"] 2 G_is_say) : Cal P w K mg base "is_letter" 8 ["many", "thing"] 2 G_is_letter := by
  refine cal_of D sc_is_letter G_is_letter rfl fun f cdv A outer s H E hr => ?_
  have hu := hr.units
  refine ⟨_, (jss_cons (js_if (jt_w (jw_or (jt_not (jt_val (je_callB (c_isi) (by rfl) T.n_isinstance (by decide +kernel) (ja_cons (je_var (pv 1)) (ja_cons (je_bty (T := "tuple") (by rfl) T.n_tuple (by decide +kernel)) ja_nil))))) (jw_or (jt_cmp (o_eq hu) (je_callB (c_len) (by rfl) T.n_len (by decide +kernel) (ja_cons (je_var (pv 1)) ja_nil)) je_int (nomark _)) (jw_one (jt_not (jt_val (je_callB (c_isi) (by rfl) T.n_isinstance (by decide +kernel) (ja_cons (je_ix o_ix (je_var (pv 1)) je_int (fun _ _ => rfl)) (ja_cons (je_bty (T := "str") (by rfl) T.n_str (by decide +kernel)) ja_nil))))))))) (jss_one (js_ret je_bl)) jss_nil) (jss_cons (js_if (jt_cmp (o_eq hu) (je_ix o_ix (je_var (pv 1)) je_int (fun _ _ => rfl)) (je_gs (by rfl) T.g_SAY) (nomark _)) (jss_one (js_ret (je_cal C_is_say (hr.mono (by omega)) takes_def (by rfl) (ja_cons (je_var (pv 0)) (ja_cons (je_var (pv 1)) ja_nil))))) jss_nil) (jss_one (js_ret (je_and (je_cmp (o_eq hu) (je_ix o_ix (je_var (pv 1)) je_int (fun _ _ => rfl)) (je_gs (by rfl) T.g_TELL) (nomark _)) (je_one (je_cal C_is_tell (hr.mono (by omega)) takes_def (by rfl) (ja_cons (je_var (pv 0)) (ja_cons (je_var (pv 1)) ja_nil))))))))), fun ws S Q Ex hl g => ?_⟩
  obtain ⟨many, w, rfl, hm, kw, g0⟩ := g
  have g : clo Q (.bl (isLt many w)) S := clo.of g0
  clear g0
  obtain ⟨t, kt⟩ := kn_pl (S := S) kw
  walk_at "go"
  simp only [kt, kT kt]
  cases w with
  | tup xs =>
    cases xs with
    | nil =>
      walk_at "go"
      exact g
    | cons x r =>
      have kx := pl_tup kw x (by simp)
      obtain ⟨t2, kt2⟩ := kn_pl (S := S) kx
      walk_at "go"
      rw [show atI (x :: r) 0 = some x from at_0]
      walk_at "go"
      simp only [kt2, kS kt2]
      cases hz : isS x with
      | false =>
        rw [show isLt many (.tup (x :: r)) = false by cases x with | str z => cases hz | _ => rfl] at g
        walk_at "go"
        exact g
      | true =>
        obtain ⟨z, rfl⟩ : ∃ z, x = .str z := by cases x with | str z => exact ⟨z, rfl⟩ | _ => cases hz
        have g : clo Q (.bl (if z = "say" then sayW many r else if z = "tell" then telW many r else false)) S := g
        walk_at "go"
        rw [show atI (.str z :: r) 0 = some (.str z) from at_0]
        walk_at "go"
        by_cases h1 : z = "say"
        · rw [decide_eq_true h1]
          rw [if_pos h1] at g
          walk_at "go"
          exact ⟨many, r, _, rfl, hm, kw, g⟩
        · rw [decide_eq_false h1]
          rw [if_neg h1] at g
          walk_at "go"
          rw [show atI (.str z :: r) 0 = some (.str z) from at_0]
          walk_at "go"
          by_cases h2 : z = "tell"
          · rw [decide_eq_true h2]
            rw [if_pos h2] at g
            walk_at "go"
            exact ⟨many, r, _, rfl, hm, kw, g⟩
          · rw [decide_eq_false h2]
            rw [if_neg h2] at g
            walk_at "go"
            exact g
  | kt _ => cases kw
  | _ =>
    walk_at "go"
    exact g
/-! ### letter_of -/
def rdLt (many m : Nat) (bs : List Int) : Option Lt := match unslF bs with
  | none => none
  | some r => match tkLt many m r with
    | .ok (some l) => if isLt many (ltD l) = true then some l else none
    | _ => none
theorem unslF_ok {bs r : List Int} (h : RowOk bs) (e : unslF bs = some r) : RowOk r := by
  unfold unslF at e
  split at e
  · cases e
  · split at e
    · cases e
      exact ⟨Nat.le_trans (by rw [List.length_take]; omega) h.1, fun b hb => h.2 b (List.mem_of_mem_take hb)⟩
    · cases e
def G_letter_of (c_Floor : Addr) : Fw := fun ws S Q _ => ∃ (R : Rws) (m : Nat) (w : Dt), ws = [floorD c_Floor R, .int (m : Nat), w] ∧ GoodF R ∧ pl w = true ∧ (∀ bs, w = .tup (bs.map Dt.int) → RowOk bs → Q (optLt (rdLt (ofF R 72).length m bs)) S) ∧ (rowW w = false → Q .non S)
theorem ok_letter_of (T : Txt P w K mg base c_BadFloor c_NoNumber c_BadRow c_NoRow c_Floor c_Reader) (D : Dfn2 K mg "letter_of" "letter_of" s_letter_of ["floor", "match", "thing"]) (C_is_letter : Cal P w K mg base "is_letter" 8 ["many", "thing"] 2 G_is_letter) (C_taken_letter : Cal P w K mg base "taken_letter" 9 ["many", "match", "row"] 3 (G_taken_letter c_Reader c_BadRow)) (C_homes : Cal P w K mg base "homes" 1 ["floor"] 1 (G_homes c_Floor)) (C_is_row_rows : Cal P w K mg base "is_row_rows" 4 ["thing"] 1 G_is_row_rows) (C_without_seal : Cal P w K mg base "without_seal" 4 ["row"] 1 G_without_seal) : Cal P w K mg base "letter_of" 10 ["floor", "match", "thing"] 3 (G_letter_of c_Floor) := by
  refine cal_of D sc_letter_of (G_letter_of c_Floor) rfl fun f cdv A outer s H E hr => ?_
  have hu := hr.units
  refine ⟨_, (jss_cons (js_set (je_if (jt_val (je_cal C_is_row_rows (hr.mono (by omega)) takes_def (by rfl) (ja_cons (je_var (pv 2)) ja_nil))) (je_cal C_without_seal (hr.mono (by omega)) takes_def (by rfl) (ja_cons (je_var (pv 2)) ja_nil)) je_non) (pg_name (i := 3) sc_letter_of.nd rfl (by first | exact Or.inl rfl | exact Or.inr rfl))) (jss_cons (js_if (jt_cmp o_is (je_var (pv 3)) je_non (nomark _)) (jss_one (js_ret je_non)) jss_nil) (jss_cons (js_set (je_callB (c_len) (by rfl) T.n_len (by decide +kernel) (ja_cons (je_cal C_homes (hr.mono (by omega)) takes_def (by rfl) (ja_cons (je_var (pv 0)) ja_nil)) ja_nil)) (pg_name (i := 4) sc_letter_of.nd rfl (by first | exact Or.inl rfl | exact Or.inr rfl))) (jss_cons (js_try rfl rfl sc_letter_of.nd takes_def (fun _ _ _ tk1 pa1 => (jss_one (js_set (je_cal C_taken_letter (hr.mono (by omega)) tk1 (by rfl) (ja_cons (je_var (pv 4)) (ja_cons (je_var (pv 1)) (ja_cons (je_var (pv 3)) ja_nil)))) (pg_name (i := 5) sc_letter_of.nd rfl (by first | exact Or.inl rfl | exact Or.inr rfl))))) (.cons ⟨by rfl, by decide, .inl T.x_BadRow.gC⟩ (fun _ _ _ => (jss_one (js_ret je_non))) .nil)) (jss_one (js_ret (je_if (jt_w (jw_and (jt_cmp o_isnot (je_var (pv 5)) je_non (nomark _)) (jw_one (jt_val (je_cal C_is_letter (hr.mono (by omega)) takes_def (by rfl) (ja_cons (je_var (pv 4)) (ja_cons (je_var (pv 5)) ja_nil))))))) (je_var (pv 5)) je_non))))))), fun ws S Q Ex hl g => ?_⟩
  obtain ⟨R, m, w, rfl, hR, kw, g1, g2⟩ := g
  have a1 := ofF_len hR 72
  have l1 : (lotW (ofF R 72)).length = (ofF R 72).length := List.length_map ..
  walk_at "go"
  refine ⟨w, rfl, kw, ?_⟩
  cases hr : rowW w with
  | false =>
    walk_at "go"
    exact clo.of (g2 hr)
  | true =>
    obtain ⟨bs, rfl, hl, hb⟩ := rowW_of hr
    have g := g1 bs rfl ⟨hl, hb⟩
    unfold rdLt at g
    walk_at "go"
    refine ⟨bs, rfl, ?_⟩
    cases hu0 : unslF bs with
    | none =>
      rw [hu0] at g
      walk_at "go"
      exact clo.of g
    | some row =>
      rw [hu0] at g
      dsimp only at g
      have okr := unslF_ok ⟨hl, hb⟩ hu0
      walk_at "go"
      refine ⟨R, rfl, ?_⟩
      walk_at "go"
      rw [l1]
      refine ⟨row, _, m, rfl, okr, by omega, fun o e => ?_, fun x e => ?_⟩
      · rw [e] at g
        cases o with
        | none =>
          walk_at "go"
          exact clo.of g
        | some l =>
          dsimp only at g
          cases l with
          | say n h d cs =>
            walk_at "go"
            refine ⟨_, _, rfl, by omega, pl_lt (.say n h d cs), ?_⟩
            rw [show optLt (some (.say n h d cs)) = ltD (.say n h d cs) from rfl]
            cases hi : isLt (ofF R 72).length (ltD (.say n h d cs)) with
            | true =>
              rw [if_pos hi] at g
              walk_at "go"
              exact clo.of g
            | false =>
              rw [if_neg (by rw [hi]; decide)] at g
              walk_at "go"
              exact clo.of g
          | tell cs f es =>
            walk_at "go"
            refine ⟨_, _, rfl, by omega, pl_lt (.tell cs f es), ?_⟩
            rw [show optLt (some (.tell cs f es)) = ltD (.tell cs f es) from rfl]
            cases hi : isLt (ofF R 72).length (ltD (.tell cs f es)) with
            | true =>
              rw [if_pos hi] at g
              walk_at "go"
              exact clo.of g
            | false =>
              rw [if_neg (by rw [hi]; decide)] at g
              walk_at "go"
              exact clo.of g
      · rw [e] at g
        walk_at "go"
        refine ⟨true, T.m_BadRow_BadRow, fun _ => ?_, fun z => Bool.noConfusion z⟩
        walk_at "go"
        exact clo.of g
/-! ### read_letter -/
def G_read_letter (c_Floor c_NoNumber : Addr) : Fw := fun ws S Q Ex => ∃ (R : Rws) (m : Nat) (w : Dt), ws = [floorD c_Floor R, .int (m : Nat), w] ∧ GoodF R ∧ m < 4294967296 ∧ pl w = true ∧ (∀ bs, w = .tup (bs.map Dt.int) → RowOk bs → Q (optLt (rdLt (ofF R 72).length m bs)) S) ∧ (rowW w = false → Q .non S)
theorem ok_read_letter (T : Txt P w K mg base c_BadFloor c_NoNumber c_BadRow c_NoRow c_Floor c_Reader) (D : Dfn2 K mg "read_letter" "read_letter" s_read_letter ["floor", "match", "thing"]) (C_letter_of : Cal P w K mg base "letter_of" 10 ["floor", "match", "thing"] 3 (G_letter_of c_Floor)) (C_check_match : Cal P w K mg base "check_match" 4 ["match"] 1 (G_check_match c_NoNumber)) : Cal P w K mg base "read_letter" 11 ["floor", "match", "thing"] 3 (G_read_letter c_Floor c_NoNumber) := by
  refine cal_of D sc_read_letter (G_read_letter c_Floor c_NoNumber) rfl fun f cdv A outer s H E hr => ?_
  have hu := hr.units
  refine ⟨_, (jss_cons (js_drop (je_cal C_check_match (hr.mono (by omega)) takes_def (by rfl) (ja_cons (je_var (pv 1)) ja_nil))) (jss_one (js_ret (je_cal C_letter_of (hr.mono (by omega)) takes_def (by rfl) (ja_cons (je_var (pv 0)) (ja_cons (je_var (pv 1)) (ja_cons (je_var (pv 2)) ja_nil))))))), fun ws S Q Ex hl g => ?_⟩
  obtain ⟨R, m, w, rfl, hR, hm, kw, g1, g2⟩ := g
  walk_at "go"
  refine ⟨_, rfl, kn_pl rfl, fun _ => ?_, fun z => by rw [inW_int (by omega) (by omega)] at z; cases z⟩
  walk_at "go"
  exact ⟨R, m, w, rfl, hR, kw, fun bs e ok => clo.of (g1 bs e ok), fun e => clo.of (g2 e)⟩
/-! ### _law_some_letter -/
def G__law_some_letter (c_Floor : Addr) : Fw := fun ws S Q _ => ∃ (h : Addr) (R : Rws) (hd : List Dt), ws = [.ref h, floorD c_Floor R] ∧ S h = some (.lst hd) ∧ HandL hd ∧ GoodF R ∧ ∀ l S' hd', LtOk (ofF R 72).length l → HandL hd' → S' h = some (.lst hd') → (∀ a o, a ≠ h → S a = some o → S' a = some o) → Q (ltD l) S'
theorem ok__law_some_letter (T : Txt P w K mg base c_BadFloor c_NoNumber c_BadRow c_NoRow c_Floor c_Reader) (D : Dfn2 K mg "_law_some_letter" "_law_some_letter" s__law_some_letter ["_law_hand_here", "_law_floor_here"]) (C__law_draw : Cal P w K mg base "_law_draw" 1 ["_law_hand_here", "_law_many"] 2 G__law_draw) (C_homes : Cal P w K mg base "homes" 1 ["floor"] 1 (G_homes c_Floor)) : Cal P w K mg base "_law_some_letter" 2 ["_law_hand_here", "_law_floor_here"] 2 (G__law_some_letter c_Floor) := by
  refine cal_of D sc__law_some_letter (G__law_some_letter c_Floor) rfl fun f cdv A outer s H E hr => ?_
  have hu := hr.units
  refine ⟨_, (jss_cons (js_set (je_callB (c_len) (by rfl) T.n_len (by decide +kernel) (ja_cons (je_cal C_homes (hr.mono (by omega)) takes_def (by rfl) (ja_cons (je_var (pv 1)) ja_nil)) ja_nil)) (pg_name (i := 2) sc__law_some_letter.nd rfl (by first | exact Or.inl rfl | exact Or.inr rfl))) (jss_cons (js_set (je_callT c_tuple (by rfl) T.n_tuple (by decide +kernel) (ja_cons (je_frz (jl_comp (own := [("_law_robot", 7)]) rfl sc__law_some_letter.nd (ji_rng1 (by rfl) T.n_range (ja_cons (je_var (pv 2)) ja_nil)) (blkOk_by (N := N__law_some_letter) (sc := defScope s__law_some_letter) (by decide +kernel)) binds_name (fun _ _ _ _ _ => (pg_name (i := 7) sc__law_some_letter.nd rfl (by first | exact Or.inl rfl | exact Or.inr rfl))) (fun _ _ _ _ _ => jts_nil) (fun _ _ _ _ _ => (je_ix o_ix (je_frz (jl_lst (ja_cons je_int (ja_cons je_int (ja_cons je_int (ja_cons je_int (ja_cons je_int (ja_cons je_int ja_nil)))))))) (je_cal C__law_draw (hr.mono (by omega)) takes0 (by rfl) (ja_cons (je_var (pv 0)) (ja_cons je_int ja_nil))) (fun _ _ => rfl))))) ja_nil)) (pg_name (i := 3) sc__law_some_letter.nd rfl (by first | exact Or.inl rfl | exact Or.inr rfl))) (jss_cons (js_set (je_ix o_ix (je_frz (jl_lst (ja_cons je_int (ja_cons je_int (ja_cons je_int (ja_cons je_int (ja_cons je_int ja_nil))))))) (je_cal C__law_draw (hr.mono (by omega)) takes_def (by rfl) (ja_cons (je_var (pv 0)) (ja_cons je_int ja_nil))) (fun _ _ => rfl)) (pg_name (i := 4) sc__law_some_letter.nd rfl (by first | exact Or.inl rfl | exact Or.inr rfl))) (jss_cons (js_if (jt_cmp (o_eq hu) (je_cal C__law_draw (hr.mono (by omega)) takes_def (by rfl) (ja_cons (je_var (pv 0)) (ja_cons je_int ja_nil))) je_int (nomark _)) (jss_cons (js_set (je_cal C__law_draw (hr.mono (by omega)) takes_def (by rfl) (ja_cons (je_var (pv 0)) (ja_cons (je_var (pv 2)) ja_nil))) (pg_name (i := 7) sc__law_some_letter.nd rfl (by first | exact Or.inl rfl | exact Or.inr rfl))) (jss_one (js_ret (je_tup (ja_cons je_str (ja_cons (je_var (pv 7)) (ja_cons (je_var (pv 4)) (ja_cons (je_ix o_ix (je_var (pv 3)) (je_var (pv 7)) (fun _ _ => rfl)) (ja_cons (je_var (pv 3)) ja_nil))))))))) jss_nil) (jss_cons (js_set (je_ref (jl_lst ja_nil)) (pg_name (i := 5) sc__law_some_letter.nd rfl (by first | exact Or.inl rfl | exact Or.inr rfl))) (jss_cons (js_for passes_def rfl (ji_rng1 (by rfl) T.n_range (ja_cons (je_if (jt_cmp (o_eq hu) (je_cal C__law_draw (hr.mono (by omega)) takes_def (by rfl) (ja_cons (je_var (pv 0)) (ja_cons je_int ja_nil))) je_int (nomark _)) je_int (je_cal C__law_draw (hr.mono (by omega)) takes_def (by rfl) (ja_cons (je_var (pv 0)) (ja_cons je_int ja_nil)))) ja_nil)) (jg_name (pg_name (i := 6) sc__law_some_letter.nd rfl (by first | exact Or.inl rfl | exact Or.inr rfl))) (jss_one (js_if (jt_cmp (o_eq hu) (je_cal C__law_draw (hr.mono (by omega)) takes_def (by rfl) (ja_cons (je_var (pv 0)) (ja_cons je_int ja_nil))) je_int (nomark _)) (jss_one (js_drop (je_meth PySem.F.plainAttrs_list PySem.F.slot_list_append PySem.F.type_list_append m_append (je_var (pv 5)) (ja_cons (je_tup (ja_cons (je_ix o_ix (je_frz (jl_lst (ja_cons je_str (ja_cons je_str ja_nil)))) (je_cal C__law_draw (hr.mono (by omega)) takes_def (by rfl) (ja_cons (je_var (pv 0)) (ja_cons je_int ja_nil))) (fun _ _ => rfl)) (ja_cons (je_ix o_ix (je_frz (jl_lst (ja_cons je_int (ja_cons je_int (ja_cons je_int ja_nil))))) (je_cal C__law_draw (hr.mono (by omega)) takes_def (by rfl) (ja_cons (je_var (pv 0)) (ja_cons je_int ja_nil))) (fun _ _ => rfl)) ja_nil))) ja_nil)))) (jss_cons (js_lcF (i := 8) (own := [("_law_again", 9)]) rfl sc__law_some_letter.nd rfl rfl (ji_rng1 (by rfl) T.n_range (ja_cons (je_op o_add je_int (je_cal C__law_draw (hr.mono (by omega)) takes_def (by rfl) (ja_cons (je_var (pv 0)) (ja_cons je_int ja_nil)))) ja_nil)) (blkOk_by (N := N__law_some_letter) (sc := defScope s__law_some_letter) (by decide +kernel)) binds_name (fun _ _ _ _ _ => (pg_name (i := 9) sc__law_some_letter.nd rfl (by first | exact Or.inl rfl | exact Or.inr rfl))) (fun _ _ _ _ _ => jts_nil) (fun _ _ _ _ _ => (je_tup (ja_cons (je_ix o_ix (je_frz (jl_lst (ja_cons je_int (ja_cons je_int (ja_cons je_int ja_nil))))) (je_cal C__law_draw (hr.mono (by omega)) takes0 (by rfl) (ja_cons (je_var (pv 0)) (ja_cons je_int ja_nil))) (fun _ _ => rfl)) (ja_cons (je_cal C__law_draw (hr.mono (by omega)) takes0 (by rfl) (ja_cons (je_var (pv 0)) (ja_cons je_int ja_nil))) ja_nil))))) (jss_one (js_drop (je_meth PySem.F.plainAttrs_list PySem.F.slot_list_append PySem.F.type_list_append m_append (je_var (pv 5)) (ja_cons (je_tup (ja_cons je_str (ja_cons (je_callT c_tuple (by rfl) T.n_tuple (by decide +kernel) (ja_cons (je_var (pv 8)) ja_nil)) ja_nil))) ja_nil)))))))) (jss_one (js_ret (je_tup (ja_cons je_str (ja_cons (je_var (pv 3)) (ja_cons (je_var (pv 4)) (ja_cons (je_callT c_tuple (by rfl) T.n_tuple (by decide +kernel) (ja_cons (je_var (pv 5)) ja_nil)) ja_nil))))))))))))), fun ws S Q Ex hl g => ?_⟩
  obtain ⟨h, R, hd, rfl, hS, hh, hR, g0⟩ := g
  have g : ∀ l S' hd', LtOk (ofF R 72).length l → HandL hd' → S' h = some (.lst hd') → (∀ a o, a ≠ h → S a = some o → S' a = some o) → clo Q (ltD l) S' := fun l S' hd' a b c d => clo.of (g0 l S' hd' a b c d)
  clear g0
  have a1 := ofF_len hR 72
  have l1 : (lotW (ofF R 72)).length = (ofF R 72).length := List.length_map ..
  walk_at "go"
  refine ⟨R, rfl, ?_⟩
  walk_at "go"
  rw [l1, Int.toNat_natCast, rangeW_0]
  refine comp_inv (fun i : Nat => .int (i : Nat)) (fun j acc S1 => ∃ (cs : List Nat) (hd : List Dt), acc = lotW cs ∧ S1 = sup S h (.lst hd) ∧ HandL hd ∧ cs.length = j ∧ ∀ c ∈ cs, c < 100000) (List.range (ofF R 72).length) 0 [] _ (fun j c hj hc acc S1 jj => ?_) ⟨[], hd, rfl, sup_id hS, hh, rfl, fun b hb => nomatch hb⟩ (fun acc S1 jj => ?_)
  · obtain ⟨cs, hd, rfl, rfl, hh, hcl, hcm⟩ := jj
    rw [List.length_range] at hj
    refine ⟨trivial, _, rfl, fun N hN => ?_⟩
    walk_at "go"
    refine ⟨h, 6, hd, rfl, sup_same, hh, by decide, log_small (by decide), fun k hd k0 k1 hh => ?_⟩
    rw [sup_sup]
    walk_at "go"
    obtain ⟨w, e2, hm⟩ := atI_some k0 (xs := [Dt.int 0, .int 1, .int 7, .int 127, .int 128, .int 99999]) (by show k < 6; exact k1)
    rw [show atI _ k = _ from e2]
    obtain ⟨x, rfl, hx⟩ : ∃ x : Nat, w = .int (x : Nat) ∧ x < 100000 := by
      simp only [List.mem_cons, List.not_mem_nil, or_false] at hm
      rcases hm with rfl | rfl | rfl | rfl | rfl | rfl
      · exact ⟨0, rfl, by decide⟩
      · exact ⟨1, rfl, by decide⟩
      · exact ⟨7, rfl, by decide⟩
      · exact ⟨127, rfl, by decide⟩
      · exact ⟨128, rfl, by decide⟩
      · exact ⟨99999, rfl, by decide⟩
    walk_at "go"
    refine ⟨by rw [show (lotW cs).length = cs.length from List.length_map ..]; show _ < 16777216; omega, hN _ _ ⟨cs ++ [x], hd, by unfold lotW; rw [List.map_append]; rfl, rfl, hh, by rw [List.length_append, hcl]; rfl, fun c hc => ?_⟩⟩
    rcases List.mem_append.mp hc with hc | hc
    · exact hcm c hc
    · rw [List.mem_singleton.mp hc]; exact hx
  · obtain ⟨cs, hd, rfl, rfl, hh, hcl, hcm⟩ := jj
    rw [List.length_range, Nat.zero_add] at hcl
    have l2 : (lotW cs).length = cs.length := List.length_map ..
    have hmany : 1 ≤ (ofF R 72).length := ofF_pos hR
    refine ⟨trivial, ?_⟩
    walk_at "go"
    refine ⟨h, 5, hd, rfl, sup_same, hh, by decide, log_small (by decide), fun k hd k0 k1 hh => ?_⟩
    rw [sup_sup]
    walk_at "go"
    obtain ⟨w, e2, hm⟩ := atI_some k0 (xs := [Dt.int 0, .int 1, .int 60, .int 399, .int 99999]) (by show k < 5; exact k1)
    rw [show atI _ k = _ from e2]
    obtain ⟨f, rfl, hf⟩ : ∃ x : Nat, w = .int (x : Nat) ∧ x < 100000 := by
      simp only [List.mem_cons, List.not_mem_nil, or_false] at hm
      rcases hm with rfl | rfl | rfl | rfl | rfl
      · exact ⟨0, rfl, by decide⟩
      · exact ⟨1, rfl, by decide⟩
      · exact ⟨60, rfl, by decide⟩
      · exact ⟨399, rfl, by decide⟩
      · exact ⟨99999, rfl, by decide⟩
    walk_at "go"
    refine ⟨h, 2, hd, rfl, sup_same, hh, by decide, log_small (by decide), fun k hd k0 k1 hh => ?_⟩
    rw [sup_sup]
    walk_at "go"
    by_cases hk : k = 0
    · rw [decide_eq_true hk]
      walk_at "go"
      refine ⟨h, _, hd, rfl, sup_same, hh, by omega, log_small (by omega), fun r hd r0 r1 hh => ?_⟩
      rw [sup_sup]
      walk_at "go"
      obtain ⟨r, rfl⟩ : ∃ m : Nat, r = m := ⟨r.toNat, by omega⟩
      obtain ⟨d, hd1⟩ : ∃ d, cs[r]? = some d := ⟨_, List.getElem?_eq_getElem (by omega)⟩
      have e3 : atI (lotW cs) (r : Nat) = some (.int (d : Nat)) := by
        rw [Dn.atI_get (by omega), Int.toNat_natCast, show (lotW cs)[r]? = (cs[r]?).map fun c => Dt.int (c : Nat) from List.getElem?_map .., hd1]
        rfl
      rw [e3]
      walk_at "go"
      exact g (.say r f d cs) _ hd ⟨by omega, hf, hcm d (List.mem_of_getElem? hd1), hcl, hcm, hd1⟩ hh sup_same fun a o ha hs => by rw [sup_ne ha]; exact hs
    · rw [decide_eq_false hk]
      walk_at "go"
      intro p hp
      have hph := ne_of_sup hp
      have hpS : S p = none := by rwa [sup_ne hph] at hp
      have hkeep : ∀ (es : List En) (hd : List Dt) (a : Addr) (o : Ob), a ≠ h → S a = some o → sup (sup S p (.lst (es.map enD))) h (.lst hd) a = some o := fun es hd a o h1 h2 => by
        rw [sup_ne h1, sup_ne (fun z => by rw [z, hpS] at h2; cases h2)]
        exact h2
      rw [sup_comm (Ne.symm hph)]
      have hp3 : ∀ u v, sup (sup S p u) h v p = some u := fun u v => by rw [sup_ne hph, sup_same]
      walk_at "go"
      refine ⟨h, 20, hd, rfl, sup_same, hh, by decide, log_small (by decide), fun k2 hd k0 k1 hh => ?_⟩
      rw [sup_sup]
      walk_at "go"
      by_cases hk2 : k2 = 0
      · rw [decide_eq_true hk2]
        walk_at "go"
        refine forW_rule (fun i σ S' => ∃ (es : List En) (hd : List Dt) (y6 y7 y8 y9 : Option Dt), σ = [some (.ref h), some (floorD c_Floor R), some (.int ((ofF R 72).length : Nat)), some (.tup (lotW cs)), some (.int (f : Nat)), some (.ref p), y6, y7, y8, y9] ∧ S' = sup (sup S p (.lst (es.map enD))) h (.lst hd) ∧ HandL hd ∧ es.length = i ∧ i ≤ 60 ∧ ∀ e ∈ es, EnSm e) ⟨[], hd, _, _, _, _, rfl, rfl, hh, rfl, Nat.zero_le _, (fun e he => nomatch he)⟩ ?_ ?_
        · clear hh
          rintro i v σ S' N ew ⟨es, hd, y6, y7, y8, y9, rfl, rfl, hh, hi, hi6, he⟩ hN
          have hil : i < 60 := by
            have := (List.getElem?_eq_some_iff.mp ew).1
            rw [rangeW_len] at this
            omega
          have add : ∀ (e : En) (hd : List Dt) (y6 y7 y8 y9 : Option Dt), EnSm e → HandL hd → N [some (.ref h), some (floorD c_Floor R), some (.int ((ofF R 72).length : Nat)), some (.tup (lotW cs)), some (.int (f : Nat)), some (.ref p), y6, y7, y8, y9] (sup (sup S p (.lst (es.map enD ++ [enD e]))) h (.lst hd)) := fun e hd y6 y7 y8 y9 oe hh => hN _ _ ⟨es ++ [e], hd, y6, y7, y8, y9, rfl, by rw [List.map_append]; rfl, hh, by rw [List.length_append, hi]; rfl, by omega, fun x hx => by
            rcases List.mem_append.mp hx with hx | hx
            · exact he x hx
            · rw [List.mem_singleton.mp hx]; exact oe⟩
          refine ⟨trivial, ?_⟩
          walk_at "go"
          refine ⟨h, 3, hd, rfl, sup_same, hh, by decide, log_small (by decide), fun k3 hd k0 k1 hh => ?_⟩
          rw [sup_sup]
          walk_at "go"
          by_cases hk3 : k3 = 0
          · rw [decide_eq_true hk3]
            walk_at "go"
            refine ⟨tyW_at (hp3 _ _), ?_⟩
            walk_at "go"
            refine ⟨h, 2, hd, rfl, sup_same, hh, by decide, log_small (by decide), fun k4 hd k0 k1 hh => ?_⟩
            rw [sup_sup]
            walk_at "go"
            obtain ⟨w, e2, hm⟩ := atI_some k0 (xs := [Dt.str "out", .str "in"]) (by show k4 < 2; exact k1)
            rw [show atI _ k4 = _ from e2]
            walk_at "go"
            refine ⟨h, 3, hd, rfl, sup_same, hh, by decide, log_small (by decide), fun k5 hd k0 k1 hh => ?_⟩
            rw [sup_sup]
            walk_at "go"
            obtain ⟨w2, e3, hm2⟩ := atI_some k0 (xs := [Dt.int 0, .int 5, .int 99999]) (by show k5 < 3; exact k1)
            rw [show atI _ k5 = _ from e3]
            obtain ⟨n, rfl, hn⟩ : ∃ x : Nat, w2 = .int (x : Nat) ∧ x < 100000 := by
              simp only [List.mem_cons, List.not_mem_nil, or_false] at hm2
              rcases hm2 with rfl | rfl | rfl
              · exact ⟨0, rfl, by decide⟩
              · exact ⟨5, rfl, by decide⟩
              · exact ⟨99999, rfl, by decide⟩
            obtain ⟨e, ee, oe⟩ : ∃ e : En, Dt.tup [w, .int (n : Nat)] = enD e ∧ EnSm e := by
              simp only [List.mem_cons, List.not_mem_nil, or_false] at hm
              rcases hm with rfl | rfl
              · exact ⟨.out n, rfl, hn⟩
              · exact ⟨.inn n, rfl, hn⟩
            walk_at "go"
            rw [hp3]
            walk_at "go"
            refine ⟨by rw [List.length_map]; show _ < 16777216; omega, ?_⟩
            rw [sup_set hph, ee]
            exact add e hd _ _ _ _ oe hh
          · rw [decide_eq_false hk3]
            walk_at "go"
            refine ⟨h, 6, hd, rfl, sup_same, hh, by decide, log_small (by decide), fun k7 hd k0 k1 hh => ?_⟩
            rw [sup_sup]
            walk_at "go"
            rw [rangeW_0]
            refine comp_inv (fun i : Nat => .int (i : Nat)) (fun j acc S1 => ∃ (ps : List (Nat × Nat)) (hd : List Dt), acc = ps.map prD ∧ S1 = sup (sup S p (.lst (es.map enD))) h (.lst hd) ∧ HandL hd ∧ ps.length = j ∧ ∀ q ∈ ps, q.1 < 100000 ∧ q.2 < 100000) (List.range (1 + k7).toNat) 0 [] _ (fun j c hj hc acc S1 jj => ?_) ⟨[], hd, rfl, rfl, hh, rfl, fun b hb => nomatch hb⟩ (fun acc S1 jj => ?_)
            · obtain ⟨ps, hd, rfl, rfl, hh, hl2, hq⟩ := jj
              rw [List.length_range] at hj
              refine ⟨trivial, _, rfl, fun N hN => ?_⟩
              walk_at "go"
              refine ⟨h, 3, hd, rfl, sup_same, hh, by decide, log_small (by decide), fun a hd a0 a1 hh => ?_⟩
              rw [sup_sup]
              walk_at "go"
              obtain ⟨w, e2, hm⟩ := atI_some a0 (xs := [Dt.int 0, .int 1, .int 99999]) (by show a < 3; exact a1)
              rw [show atI _ a = _ from e2]
              obtain ⟨x, rfl, hx⟩ : ∃ x : Nat, w = .int (x : Nat) ∧ x < 100000 := by
                simp only [List.mem_cons, List.not_mem_nil, or_false] at hm
                rcases hm with rfl | rfl | rfl
                · exact ⟨0, rfl, by decide⟩
                · exact ⟨1, rfl, by decide⟩
                · exact ⟨99999, rfl, by decide⟩
              walk_at "go"
              refine ⟨h, 300, hd, rfl, sup_same, hh, by decide, log_small (by decide), fun b hd b0 b1 hh => ?_⟩
              rw [sup_sup]
              walk_at "go"
              obtain ⟨b, rfl⟩ : ∃ m : Nat, b = m := ⟨b.toNat, by omega⟩
              refine ⟨by rw [List.length_map]; show _ < 16777216; omega, hN _ _ ⟨ps ++ [(x, b)], hd, by rw [List.map_append]; rfl, rfl, hh, by rw [List.length_append, hl2]; rfl, fun q hq' => ?_⟩⟩
              rcases List.mem_append.mp hq' with hq' | hq'
              · exact hq q hq'
              · rw [List.mem_singleton.mp hq']
                exact ⟨hx, by dsimp only; omega⟩
            · obtain ⟨ps, hd, rfl, rfl, hh, hl2, hq⟩ := jj
              rw [List.length_range, Nat.zero_add] at hl2
              refine ⟨trivial, ?_⟩
              walk_at "go"
              refine ⟨tyW_at (hp3 _ _), ?_⟩
              walk_at "go"
              rw [hp3]
              walk_at "go"
              refine ⟨by rw [List.length_map]; show _ < 16777216; omega, ?_⟩
              rw [sup_set hph]
              exact add (.ord ps) hd _ _ _ _ ⟨by omega, by omega, hq⟩ hh
        · clear hh
          rintro σ S' ⟨es, hd, y6, y7, y8, y9, rfl, rfl, hh, hi, hi6, he⟩
          refine ⟨trivial, ?_⟩
          walk_at "go"
          rw [lsv_at (hp3 _ _)]
          walk_at "go"
          exact g (.tell cs f es) _ hd ⟨hcl, hcm, hf, by omega, he⟩ hh sup_same fun a o h1 h2 => hkeep es hd a o h1 h2
      · rw [decide_eq_false hk2]
        walk_at "go"
        refine ⟨h, 4, hd, rfl, sup_same, hh, by decide, log_small (by decide), fun k4 hd k5 k6 hh => ?_⟩
        rw [sup_sup]
        walk_at "go"
        refine forW_rule (fun i σ S' => ∃ (es : List En) (hd : List Dt) (y6 y7 y8 y9 : Option Dt), σ = [some (.ref h), some (floorD c_Floor R), some (.int ((ofF R 72).length : Nat)), some (.tup (lotW cs)), some (.int (f : Nat)), some (.ref p), y6, y7, y8, y9] ∧ S' = sup (sup S p (.lst (es.map enD))) h (.lst hd) ∧ HandL hd ∧ es.length = i ∧ i ≤ 60 ∧ ∀ e ∈ es, EnSm e) ⟨[], hd, _, _, _, _, rfl, rfl, hh, rfl, Nat.zero_le _, (fun e he => nomatch he)⟩ ?_ ?_
        · clear hh
          rintro i v σ S' N ew ⟨es, hd, y6, y7, y8, y9, rfl, rfl, hh, hi, hi6, he⟩ hN
          have hil : i < 60 := by
            have := (List.getElem?_eq_some_iff.mp ew).1
            rw [rangeW_len] at this
            omega
          have add : ∀ (e : En) (hd : List Dt) (y6 y7 y8 y9 : Option Dt), EnSm e → HandL hd → N [some (.ref h), some (floorD c_Floor R), some (.int ((ofF R 72).length : Nat)), some (.tup (lotW cs)), some (.int (f : Nat)), some (.ref p), y6, y7, y8, y9] (sup (sup S p (.lst (es.map enD ++ [enD e]))) h (.lst hd)) := fun e hd y6 y7 y8 y9 oe hh => hN _ _ ⟨es ++ [e], hd, y6, y7, y8, y9, rfl, by rw [List.map_append]; rfl, hh, by rw [List.length_append, hi]; rfl, by omega, fun x hx => by
            rcases List.mem_append.mp hx with hx | hx
            · exact he x hx
            · rw [List.mem_singleton.mp hx]; exact oe⟩
          refine ⟨trivial, ?_⟩
          walk_at "go"
          refine ⟨h, 3, hd, rfl, sup_same, hh, by decide, log_small (by decide), fun k3 hd k0 k1 hh => ?_⟩
          rw [sup_sup]
          walk_at "go"
          by_cases hk3 : k3 = 0
          · rw [decide_eq_true hk3]
            walk_at "go"
            refine ⟨tyW_at (hp3 _ _), ?_⟩
            walk_at "go"
            refine ⟨h, 2, hd, rfl, sup_same, hh, by decide, log_small (by decide), fun k4 hd k0 k1 hh => ?_⟩
            rw [sup_sup]
            walk_at "go"
            obtain ⟨w, e2, hm⟩ := atI_some k0 (xs := [Dt.str "out", .str "in"]) (by show k4 < 2; exact k1)
            rw [show atI _ k4 = _ from e2]
            walk_at "go"
            refine ⟨h, 3, hd, rfl, sup_same, hh, by decide, log_small (by decide), fun k5 hd k0 k1 hh => ?_⟩
            rw [sup_sup]
            walk_at "go"
            obtain ⟨w2, e3, hm2⟩ := atI_some k0 (xs := [Dt.int 0, .int 5, .int 99999]) (by show k5 < 3; exact k1)
            rw [show atI _ k5 = _ from e3]
            obtain ⟨n, rfl, hn⟩ : ∃ x : Nat, w2 = .int (x : Nat) ∧ x < 100000 := by
              simp only [List.mem_cons, List.not_mem_nil, or_false] at hm2
              rcases hm2 with rfl | rfl | rfl
              · exact ⟨0, rfl, by decide⟩
              · exact ⟨5, rfl, by decide⟩
              · exact ⟨99999, rfl, by decide⟩
            obtain ⟨e, ee, oe⟩ : ∃ e : En, Dt.tup [w, .int (n : Nat)] = enD e ∧ EnSm e := by
              simp only [List.mem_cons, List.not_mem_nil, or_false] at hm
              rcases hm with rfl | rfl
              · exact ⟨.out n, rfl, hn⟩
              · exact ⟨.inn n, rfl, hn⟩
            walk_at "go"
            rw [hp3]
            walk_at "go"
            refine ⟨by rw [List.length_map]; show _ < 16777216; omega, ?_⟩
            rw [sup_set hph, ee]
            exact add e hd _ _ _ _ oe hh
          · rw [decide_eq_false hk3]
            walk_at "go"
            refine ⟨h, 6, hd, rfl, sup_same, hh, by decide, log_small (by decide), fun k7 hd k0 k1 hh => ?_⟩
            rw [sup_sup]
            walk_at "go"
            rw [rangeW_0]
            refine comp_inv (fun i : Nat => .int (i : Nat)) (fun j acc S1 => ∃ (ps : List (Nat × Nat)) (hd : List Dt), acc = ps.map prD ∧ S1 = sup (sup S p (.lst (es.map enD))) h (.lst hd) ∧ HandL hd ∧ ps.length = j ∧ ∀ q ∈ ps, q.1 < 100000 ∧ q.2 < 100000) (List.range (1 + k7).toNat) 0 [] _ (fun j c hj hc acc S1 jj => ?_) ⟨[], hd, rfl, rfl, hh, rfl, fun b hb => nomatch hb⟩ (fun acc S1 jj => ?_)
            · obtain ⟨ps, hd, rfl, rfl, hh, hl2, hq⟩ := jj
              rw [List.length_range] at hj
              refine ⟨trivial, _, rfl, fun N hN => ?_⟩
              walk_at "go"
              refine ⟨h, 3, hd, rfl, sup_same, hh, by decide, log_small (by decide), fun a hd a0 a1 hh => ?_⟩
              rw [sup_sup]
              walk_at "go"
              obtain ⟨w, e2, hm⟩ := atI_some a0 (xs := [Dt.int 0, .int 1, .int 99999]) (by show a < 3; exact a1)
              rw [show atI _ a = _ from e2]
              obtain ⟨x, rfl, hx⟩ : ∃ x : Nat, w = .int (x : Nat) ∧ x < 100000 := by
                simp only [List.mem_cons, List.not_mem_nil, or_false] at hm
                rcases hm with rfl | rfl | rfl
                · exact ⟨0, rfl, by decide⟩
                · exact ⟨1, rfl, by decide⟩
                · exact ⟨99999, rfl, by decide⟩
              walk_at "go"
              refine ⟨h, 300, hd, rfl, sup_same, hh, by decide, log_small (by decide), fun b hd b0 b1 hh => ?_⟩
              rw [sup_sup]
              walk_at "go"
              obtain ⟨b, rfl⟩ : ∃ m : Nat, b = m := ⟨b.toNat, by omega⟩
              refine ⟨by rw [List.length_map]; show _ < 16777216; omega, hN _ _ ⟨ps ++ [(x, b)], hd, by rw [List.map_append]; rfl, rfl, hh, by rw [List.length_append, hl2]; rfl, fun q hq' => ?_⟩⟩
              rcases List.mem_append.mp hq' with hq' | hq'
              · exact hq q hq'
              · rw [List.mem_singleton.mp hq']
                exact ⟨hx, by dsimp only; omega⟩
            · obtain ⟨ps, hd, rfl, rfl, hh, hl2, hq⟩ := jj
              rw [List.length_range, Nat.zero_add] at hl2
              refine ⟨trivial, ?_⟩
              walk_at "go"
              refine ⟨tyW_at (hp3 _ _), ?_⟩
              walk_at "go"
              rw [hp3]
              walk_at "go"
              refine ⟨by rw [List.length_map]; show _ < 16777216; omega, ?_⟩
              rw [sup_set hph]
              exact add (.ord ps) hd _ _ _ _ ⟨by omega, by omega, hq⟩ hh
        · clear hh
          rintro σ S' ⟨es, hd, y6, y7, y8, y9, rfl, rfl, hh, hi, hi6, he⟩
          refine ⟨trivial, ?_⟩
          walk_at "go"
          rw [lsv_at (hp3 _ _)]
          walk_at "go"
          exact g (.tell cs f es) _ hd ⟨hcl, hcm, hf, by omega, he⟩ hh sup_same fun a o h1 h2 => hkeep es hd a o h1 h2
/-! ### _law_read_wide -/
def G__law_read_wide : Fw := fun ws S Q _ => ∃ (bs : List Int) (p : Nat), ws = [.lst (bs.map Dt.int), .int (p : Nat)] ∧ RowOk bs ∧ (∀ v c, numAt bs p = some (v, c) → Q (.tup [.int v, .int ((p + c : Nat) : Int)]) S) ∧ (numAt bs p = none → ∀ x, (x = .non ∨ ∃ v : Int, x = .int v ∧ 18446744073709551616 ≤ v) → ∀ q : Nat, Q (.tup [x, .int (q : Nat)]) S)
theorem ok__law_read_wide (T : Txt P w K mg base c_BadFloor c_NoNumber c_BadRow c_NoRow c_Floor c_Reader) (D : Dfn2 K mg "_law_read_wide" "_law_read_wide" s__law_read_wide ["_law_row", "_law_at"])  : Cal P w K mg base "_law_read_wide" 1 ["_law_row", "_law_at"] 2 G__law_read_wide := by
  refine cal_of D sc__law_read_wide G__law_read_wide rfl fun f cdv A outer s H E hr => ?_
  have hu := hr.units
  refine ⟨_, (jss_cons (js_par3 (i := 2) (j := 3) (l := 4) rfl sc__law_read_wide.nd rfl rfl rfl (by decide) (by decide) (by decide) rfl rfl rfl (ja_cons je_int (ja_cons je_int (ja_cons (je_var (pv 1)) ja_nil)))) (jss_cons (js_while passes_def (jt_w (jw_and (jt_cmp o_lt (je_var (pv 4)) (je_callB (c_len) (by rfl) T.n_len (by decide +kernel) (ja_cons (je_var (pv 0)) ja_nil)) (nomark _)) (jw_and (jt_cmp o_gt (je_ix o_ix (je_var (pv 0)) (je_var (pv 4)) (fun _ _ => rfl)) je_int (nomark _)) (jw_one (jt_cmp o_lt (je_op o_sub (je_var (pv 4)) (je_var (pv 1))) je_int (nomark _)))))) (jss_one (js_par3 (i := 2) (j := 3) (l := 4) rfl sc__law_read_wide.nd rfl rfl rfl (by decide) (by decide) (by decide) rfl rfl rfl (ja_cons (je_op o_add (je_var (pv 2)) (je_op o_mul (je_var (pv 3)) (je_op o_sub (je_ix o_ix (je_var (pv 0)) (je_var (pv 4)) (fun _ _ => rfl)) je_int))) (ja_cons (je_op o_mul (je_var (pv 3)) je_int) (ja_cons (je_op o_add (je_var (pv 4)) je_int) ja_nil)))))) (jss_cons (js_if (jt_w (jw_or (jt_cmp o_ge (je_var (pv 4)) (je_callB (c_len) (by rfl) T.n_len (by decide +kernel) (ja_cons (je_var (pv 0)) ja_nil)) (nomark _)) (jw_or (jt_cmp o_gt (je_ix o_ix (je_var (pv 0)) (je_var (pv 4)) (fun _ _ => rfl)) je_int (nomark _)) (jw_one (jt_w (jw_and (jt_cmp (o_eq hu) (je_ix o_ix (je_var (pv 0)) (je_var (pv 4)) (fun _ _ => rfl)) je_int (nomark _)) (jw_one (jt_cmp o_gt (je_var (pv 4)) (je_var (pv 1)) (nomark _))))))))) (jss_one (js_ret (je_tup (ja_cons je_non (ja_cons (je_var (pv 1)) ja_nil))))) jss_nil) (jss_one (js_ret (je_tup (ja_cons (je_op o_add (je_var (pv 2)) (je_op o_mul (je_var (pv 3)) (je_ix o_ix (je_var (pv 0)) (je_var (pv 4)) (fun _ _ => rfl)))) (ja_cons (je_op o_add (je_var (pv 4)) je_int) ja_nil)))))))), fun ws S Q Ex hl g => ?_⟩
  obtain ⟨bs, p, rfl, ok, g01, g02⟩ := g
  have g1 : ∀ v c, numAt bs p = some (v, c) → clo Q (.tup [.int v, .int ((p + c : Nat) : Int)]) S := fun v c e => clo.of (g01 v c e)
  have g2 : numAt bs p = none → ∀ x, (x = .non ∨ ∃ v : Int, x = .int v ∧ 18446744073709551616 ≤ v) → ∀ q : Nat, clo Q (.tup [x, .int (q : Nat)]) S := fun e x h q => clo.of (g02 e x h q)
  clear g01 g02
  walk_at "go"
  refine mWhile_rule (fun k σ S' => ∃ (c : Nat) (v pw : Int), S' = S ∧ σ = [some (.lst (bs.map Dt.int)), some (.int (p : Nat)), some (.int v), some (.int pw), some (.int ((p + c : Nat) : Int))] ∧ c + k = 9 ∧ numAt bs p = numG (bs.drop (p + c)) (k + 1) v pw c ∧ 0 ≤ v ∧ 0 < pw ∧ pw * 128 ^ k = 9223372036854775808 ∧ v < pw) 9 ⟨0, 0, 1, rfl, rfl, rfl, rfl, by omega, by omega, by decide, by omega⟩ ?_
  rintro k σ S' N ⟨c, v, pw, rfl, rfl, hk, hn, hv, hp0, hpk, hvp⟩ hN
  have hpb : pw ≤ 9223372036854775808 := by
    rw [← hpk]
    have h1 : (0 : Int) < 128 ^ k := Int.pow_pos (by decide)
    have h2 : pw * 1 ≤ pw * 128 ^ k := Int.mul_le_mul_of_nonneg_left (by omega) (by omega)
    omega
  walk_at "go"
  have lm : (bs.map Dt.int).length = bs.length := List.length_map ..
  rw [lm]
  by_cases h : p + c < bs.length
  · rw [decide_eq_true (show ((p + c : Nat) : Int) < (bs.length : Int) by omega)]
    have e1 : bs.drop (p + c) = bs[p + c] :: bs.drop (p + c + 1) := List.drop_eq_getElem_cons h
    have e2 : bs[p + c]? = some bs[p + c] := List.getElem?_eq_getElem h
    have hb := ok.2 _ (List.getElem_mem h)
    have at1 : atI (bs.map Dt.int) ((p + c : Nat) : Int) = some (.int bs[p + c]) := by
      rw [Dn.atI_get (Int.natCast_nonneg _), List.getElem?_map, show (((p + c : Nat) : Int)).toNat = p + c from Int.toNat_natCast _, e2]
      rfl
    generalize bs[p + c] = b at e1 e2 hb at1
    rw [e1] at hn
    walk_at "go"
    rw [at1]
    walk_at "go"
    by_cases hb1 : 127 < b
    · rw [decide_eq_true hb1]
      walk_at "go"
      cases k with
      | zero =>
        rw [decide_eq_false (show ¬(((p + c : Nat) : Int) - (p : Nat) < 9) by omega)]
        rw [numG_more (by omega), numG_zero] at hn
        walk_at "go"
        rw [at1]
        walk_at "go"
        exact g2 hn _ (.inl rfl) _
      | succ k =>
        rw [decide_eq_true (show ((p + c : Nat) : Int) - (p : Nat) < 9 by omega)]
        rw [numG_more (by omega)] at hn
        walk_at "go"
        rw [at1]
        walk_at "go"
        refine ⟨.inr (.inl ⟨by omega, by omega⟩), ?_⟩
        walk_at "go"
        have hbm : b % 128 = b - 128 := by omega
        have hm0 : 0 ≤ pw * (b - 128) := Int.mul_nonneg (by omega) (by omega)
        have hm1 : pw * (b - 128) ≤ pw * 127 := Int.mul_le_mul_of_nonneg_left (by omega) (by omega)
        refine hN k _ _ (Nat.lt_succ_self k) ⟨c + 1, v + pw * (b - 128), pw * 128, rfl, ?_, by omega, ?_, by omega, by omega, ?_, by omega⟩
        · rw [show (((p + c : Nat) : Int) + 1) = ((p + (c + 1) : Nat) : Int) by omega]
          rfl
        · rw [hn, hbm, Int.mul_comm (b - 128) pw]
          rfl
        · rw [← hpk, Int.pow_succ, Int.mul_assoc, Int.mul_comm 128]
    · rw [decide_eq_false hb1]
      rw [numG_last (by omega)] at hn
      walk_at "go"
      rw [at1]
      walk_at "go"
      rw [at1]
      walk_at "go"
      have hbm : b % 128 = b := by omega
      rw [hbm] at hn
      have fin : ¬(b = 0 ∧ 0 < c) → clo Q (.tup [.int (v + pw * b), .int (((p + c : Nat) : Int) + 1)]) S' := fun hnc => by
        rw [Int.mul_comm pw b, show (((p + c : Nat) : Int) + 1) = ((p + (c + 1) : Nat) : Int) by omega]
        by_cases big : 18446744073709551616 ≤ v + b * pw
        · rw [if_pos (.inr big)] at hn
          exact g2 hn _ (.inr ⟨_, rfl, big⟩) _
        · rw [if_neg (fun z => z.elim hnc big)] at hn
          exact g1 _ _ hn
      by_cases hz : b = 0
      · rw [decide_eq_true hz]
        walk_at "go"
        by_cases hc : 0 < c
        · rw [decide_eq_true (show (p : Int) < ((p + c : Nat) : Int) by omega)]
          rw [if_pos (.inl ⟨hz, hc⟩)] at hn
          walk_at "go"
          exact g2 hn _ (.inl rfl) _
        · rw [decide_eq_false (show ¬(p : Int) < ((p + c : Nat) : Int) by omega)]
          walk_at "go"
          rw [at1]
          walk_at "go"
          refine ⟨.inr (.inl ⟨by omega, by omega⟩), ?_⟩
          walk_at "go"
          exact fin fun z => hc z.2
      · rw [decide_eq_false hz]
        walk_at "go"
        rw [at1]
        walk_at "go"
        refine ⟨.inr (.inl ⟨by omega, by omega⟩), ?_⟩
        walk_at "go"
        exact fin fun z => hz z.1
  · rw [decide_eq_false (show ¬(((p + c : Nat) : Int) < (bs.length : Int)) by omega)]
    rw [List.drop_eq_nil_of_le (by omega), numG_nil] at hn
    walk_at "go"
    exact g2 hn _ (.inl rfl) _
/-! ### _law_read_wides -/
/-- so many numbers below 100000 -/
def nmsB (bs : List Int) : Nat → Nat → Option (List Nat × Nat)
  | 0, p => some ([], p)
  | m + 1, p => match numAt bs p with
    | none => none
    | some (n, c) => if n < 100000 then (match nmsB bs m (p + c) with
      | none => none
      | some (ns, k) => some (n.toNat :: ns, k)) else none
theorem nmsB_iff {bs : List Int} (hb : ∀ b ∈ bs, 0 ≤ b ∧ b ≤ 255) : ∀ {m p : Nat} {ns : List Nat} {k : Nat}, nmsB bs m p = some (ns, k) ↔ nmsR bs m p = .ok (ns, k) ∧ ∀ n ∈ ns, n < 100000
  | 0, p, ns, k => by
    unfold nmsB nmsR
    constructor
    · intro h
      cases h
      exact ⟨rfl, (fun n h => nomatch h)⟩
    · rintro ⟨h, _⟩
      cases h
      rfl
  | m + 1, p, ns, k => by
    unfold nmsB nmsR
    cases e : numAt bs p with
    | none => exact ⟨(fun h => nomatch h), (fun h => nomatch h.1)⟩
    | some v =>
      obtain ⟨n, c⟩ := v
      have hn := numAt_in hb e
      dsimp only
      by_cases hs : n < 100000
      · rw [if_pos hs]
        cases e1 : nmsB bs m (p + c) with
        | none =>
          constructor
          · intro h
            cases h
          · rintro ⟨h, h2⟩
            cases e2 : nmsR bs m (p + c) with
            | error x =>
              rw [e2] at h
              cases h
            | ok v =>
              obtain ⟨us, j⟩ := v
              rw [e2] at h
              cases h
              have := (nmsB_iff hb).mpr ⟨e2, fun n hn => h2 n (List.mem_cons_of_mem _ hn)⟩
              rw [e1] at this
              cases this
        | some v =>
          obtain ⟨us, j⟩ := v
          obtain ⟨e2, e3⟩ := (nmsB_iff hb).mp e1
          rw [e2]
          dsimp only
          constructor
          · intro h
            cases h
            exact ⟨rfl, fun n hn => by
              rcases List.mem_cons.mp hn with rfl | hn
              · omega
              · exact e3 n hn⟩
          · rintro ⟨h, _⟩
            cases h
            rfl
      · rw [if_neg hs]
        constructor
        · intro h
          cases h
        · rintro ⟨h, h2⟩
          cases e2 : nmsR bs m (p + c) with
          | error x =>
            rw [e2] at h
            cases h
          | ok v =>
            obtain ⟨us, j⟩ := v
            rw [e2] at h
            cases h
            have := h2 _ List.mem_cons_self
            omega
def G__law_read_wides : Fw := fun ws S Q _ => ∃ (bs : List Int) (p many : Nat), ws = [.lst (bs.map Dt.int), .int (p : Nat), .int (many : Nat), .int 100000] ∧ RowOk bs ∧ many ≤ 2000 ∧ (∀ ns k, nmsB bs many p = some (ns, k) → Q (.tup [.tup (lotW ns), .int (k : Nat)]) S) ∧ (nmsB bs many p = none → ∀ q : Nat, Q (.tup [.non, .int (q : Nat)]) S)
theorem ok__law_read_wides (T : Txt P w K mg base c_BadFloor c_NoNumber c_BadRow c_NoRow c_Floor c_Reader) (D : Dfn2 K mg "_law_read_wides" "_law_read_wides" s__law_read_wides ["_law_row", "_law_at", "_law_many", "_law_most"]) (C__law_read_wide : Cal P w K mg base "_law_read_wide" 1 ["_law_row", "_law_at"] 2 G__law_read_wide) : Cal P w K mg base "_law_read_wides" 2 ["_law_row", "_law_at", "_law_many", "_law_most"] 4 G__law_read_wides := by
  refine cal_of D sc__law_read_wides G__law_read_wides rfl fun f cdv A outer s H E hr => ?_
  have hu := hr.units
  refine ⟨_, (jss_cons (js_set (je_ref (jl_lst ja_nil)) (pg_name (i := 4) sc__law_read_wides.nd rfl (by first | exact Or.inl rfl | exact Or.inr rfl))) (jss_cons (js_for passes_def rfl (ji_rng1 (by rfl) T.n_range (ja_cons (je_var (pv 2)) ja_nil)) (jg_name (pg_name (i := 5) sc__law_read_wides.nd rfl (by first | exact Or.inl rfl | exact Or.inr rfl))) (jss_cons (js_asg (je_cal C__law_read_wide (hr.mono (by omega)) takes_def (by rfl) (ja_cons (je_var (pv 0)) (ja_cons (je_var (pv 1)) ja_nil))) (jg_tup (n := 2) rfl (jgs_cons (jg_name (pg_name (i := 6) sc__law_read_wides.nd rfl (by first | exact Or.inl rfl | exact Or.inr rfl))) (jgs_cons (jg_name (pg_name (i := 1) sc__law_read_wides.nd rfl (by first | exact Or.inl rfl | exact Or.inr rfl))) jgs_nil)))) (jss_cons (js_if (jt_w (jw_or (jt_cmp o_is (je_var (pv 6)) je_non (nomark _)) (jw_one (jt_cmp o_ge (je_var (pv 6)) (je_var (pv 3)) (nomark _))))) (jss_one (js_ret (je_tup (ja_cons je_non (ja_cons (je_var (pv 1)) ja_nil))))) jss_nil) (jss_one (js_drop (je_meth PySem.F.plainAttrs_list PySem.F.slot_list_append PySem.F.type_list_append m_append (je_var (pv 4)) (ja_cons (je_var (pv 6)) ja_nil))))))) (jss_one (js_ret (je_tup (ja_cons (je_callT c_tuple (by rfl) T.n_tuple (by decide +kernel) (ja_cons (je_var (pv 4)) ja_nil)) (ja_cons (je_var (pv 1)) ja_nil))))))), fun ws S Q Ex hl g => ?_⟩
  obtain ⟨bs, p, many, rfl, ok, hm, g01, g02⟩ := g
  have g1 : ∀ ns k, nmsB bs many p = some (ns, k) → clo Q (.tup [.tup (lotW ns), .int (k : Nat)]) S := fun v c e => clo.of (g01 v c e)
  have g2 : nmsB bs many p = none → ∀ q : Nat, clo Q (.tup [.non, .int (q : Nat)]) S := fun e q => clo.of (g02 e q)
  clear g01 g02
  walk_at "go"
  intro r hr
  walk_at "go"
  rw [Int.toNat_natCast, rangeW_0]
  refine forW_rule (fun i σ S' => ∃ (ns : List Nat) (q : Nat) (y5 y6 : Option Dt), σ = [some (.lst (bs.map Dt.int)), some (.int (q : Nat)), some (.int (many : Nat)), some (.int 100000), some (.ref r), y5, y6] ∧ S' = sup S r (.lst (lotW ns)) ∧ ns.length = i ∧ i ≤ many ∧ nmsB bs many p = (match nmsB bs (many - i) q with | none => none | some (us, k) => some (ns ++ us, k))) ⟨[], p, _, _, rfl, rfl, rfl, Nat.zero_le _, ?_⟩ ?_ ?_
  · rw [Nat.sub_zero]
    cases nmsB bs many p with
    | none => rfl
    | some v => rfl
  · rintro i w σ S' N ew ⟨ns, q, y5, y6, rfl, rfl, hns, hi, he⟩ hN
    have him : i < many := by
      have := (List.getElem?_eq_some_iff.mp ew).1
      rw [List.length_map, List.length_range] at this
      exact this
    refine ⟨trivial, ?_⟩
    rw [show many - i = (many - (i + 1)) + 1 by omega, nmsB] at he
    walk_at "go"
    refine ⟨bs, q, rfl, ok, fun v c ev => ?_, fun ev x hx q' => ?_⟩
    · rw [ev] at he
      dsimp only at he
      have hv := numAt_in ok.2 ev
      walk_at "go"
      by_cases hs : v < 100000
      · rw [if_pos hs] at he
        rw [decide_eq_false (show ¬100000 ≤ v by omega)]
        walk_at "go"
        refine ⟨tyW_at sup_same, ?_⟩
        walk_at "go"
        refine ⟨by rw [show (lotW ns).length = ns.length from List.length_map ..]; show _ < 16777216; omega, ?_⟩
        rw [sup_sup]
        refine hN _ _ ⟨ns ++ [v.toNat], q + c, _, _, rfl, ?_, by rw [List.length_append, hns]; rfl, by omega, ?_⟩
        · unfold lotW
          rw [List.map_append]
          show _ = sup S r (.lst (_ ++ [Dt.int ((v.toNat : Nat) : Int)]))
          rw [Int.toNat_of_nonneg hv.1]
        · rw [he]
          cases nmsB bs (many - (i + 1)) (q + c) with
          | none => rfl
          | some z =>
            dsimp only
            rw [List.append_assoc]
            rfl
      · rw [if_neg hs] at he
        rw [decide_eq_true (show 100000 ≤ v by omega)]
        walk_at "go"
        exact clo_sub (g2 he _) (sub_sup hr)
    · rw [ev] at he
      dsimp only at he
      rcases hx with rfl | ⟨v, rfl, hv⟩
      · walk_at "go"
        exact clo_sub (g2 he _) (sub_sup hr)
      · walk_at "go"
        exact clo_sub (g2 he _) (sub_sup hr)
  · rintro σ S' ⟨ns, q, y5, y6, rfl, rfl, hns, hi, he⟩
    refine ⟨trivial, ?_⟩
    rw [List.length_map, List.length_range, Nat.sub_self, nmsB] at he
    dsimp only at he
    rw [List.append_nil] at he
    walk_at "go"
    rw [lsv_at sup_same]
    walk_at "go"
    exact clo_sub (g1 _ _ he) (sub_sup hr)
/-! ### _law_read_say -/
theorem nmsB_len {bs : List Int} : ∀ {m p : Nat} {ns : List Nat} {k : Nat}, nmsB bs m p = some (ns, k) → ns.length = m ∧ ∀ n ∈ ns, n < 100000
  | 0, p, ns, k, h => by
    cases h
    exact ⟨rfl, (fun n h => nomatch h)⟩
  | m + 1, p, ns, k, h => by
    unfold nmsB at h
    split at h
    · cases h
    · split at h
      · split at h
        · cases h
        · rename_i e
          cases h
          have := nmsB_len e
          exact ⟨by rw [List.length_cons, this.1], fun n hn => by
            rcases List.mem_cons.mp hn with rfl | hn
            · omega
            · exact this.2 n hn⟩
      · cases h
def sayB (bs : List Int) (many p : Nat) : Option Lt := match nmsB bs (many + 3) p with
  | some (a :: b :: d :: cs, q) => if q = bs.length ∧ a < many ∧ cs[a]? = some d then some (.say a b d cs) else none
  | _ => none
def G__law_read_say : Fw := fun ws S Q _ => ∃ (bs : List Int) (p many : Nat), ws = [.lst (bs.map Dt.int), .int (p : Nat), .int (many : Nat)] ∧ RowOk bs ∧ many ≤ 1000 ∧ Q (optLt (sayB bs many p)) S
theorem ok__law_read_say (T : Txt P w K mg base c_BadFloor c_NoNumber c_BadRow c_NoRow c_Floor c_Reader) (D : Dfn2 K mg "_law_read_say" "_law_read_say" s__law_read_say ["_law_row", "_law_at", "_law_many"]) (C__law_read_wides : Cal P w K mg base "_law_read_wides" 2 ["_law_row", "_law_at", "_law_many", "_law_most"] 4 G__law_read_wides) : Cal P w K mg base "_law_read_say" 3 ["_law_row", "_law_at", "_law_many"] 3 G__law_read_say := by
  refine cal_of D sc__law_read_say G__law_read_say rfl fun f cdv A outer s H E hr => ?_
  have hu := hr.units
  refine ⟨_, (jss_cons (js_asg (je_cal C__law_read_wides (hr.mono (by omega)) takes_def (by rfl) (ja_cons (je_var (pv 0)) (ja_cons (je_var (pv 1)) (ja_cons (je_op o_add (je_var (pv 2)) je_int) (ja_cons je_int ja_nil))))) (jg_tup (n := 2) rfl (jgs_cons (jg_name (pg_name (i := 3) sc__law_read_say.nd rfl (by first | exact Or.inl rfl | exact Or.inr rfl))) (jgs_cons (jg_name (pg_name (i := 1) sc__law_read_say.nd rfl (by first | exact Or.inl rfl | exact Or.inr rfl))) jgs_nil)))) (jss_cons (js_if (jt_w (jw_or (jt_cmp o_is (je_var (pv 3)) je_non (nomark _)) (jw_or (jt_cmp (o_ne hu) (je_var (pv 1)) (je_callB (c_len) (by rfl) T.n_len (by decide +kernel) (ja_cons (je_var (pv 0)) ja_nil)) (nomark _)) (jw_or (jt_cmp o_ge (je_ix o_ix (je_var (pv 3)) je_int (fun _ _ => rfl)) (je_var (pv 2)) (nomark _)) (jw_one (jt_cmp (o_ne hu) (je_ix o_ix (je_var (pv 3)) (je_op o_add je_int (je_ix o_ix (je_var (pv 3)) je_int (fun _ _ => rfl))) (fun _ _ => rfl)) (je_ix o_ix (je_var (pv 3)) je_int (fun _ _ => rfl)) (nomark _))))))) (jss_one (js_ret je_non)) jss_nil) (jss_one (js_ret (je_op o_add (je_op o_add (je_tup (ja_cons je_str ja_nil)) (je_slice o_slice (je_var (pv 3)) jo_none (jo_some je_int))) (je_tup (ja_cons (je_slice o_slice (je_var (pv 3)) (jo_some je_int) jo_none) ja_nil))))))), fun ws S Q Ex hl g => ?_⟩
  obtain ⟨bs, p, many, rfl, ok, hm, g0⟩ := g
  have g : clo Q (optLt (sayB bs many p)) S := clo.of g0
  clear g0
  unfold sayB at g
  have lm : (bs.map Dt.int).length = bs.length := List.length_map ..
  walk_at "go"
  refine ⟨bs, p, many + 3, rfl, ok, by omega, fun ns k e => ?_, fun e q => ?_⟩
  · rw [e] at g
    obtain ⟨hl, hb⟩ := nmsB_len e
    obtain ⟨a, b, d, cs, rfl⟩ : ∃ a b d cs, ns = a :: b :: d :: cs := by
      match ns, hl with
      | a :: b :: d :: cs, _ => exact ⟨a, b, d, cs, rfl⟩
    simp only [List.length_cons] at hl
    dsimp only at g
    have at1 : atI (lotW (a :: b :: d :: cs)) ((0 : Nat) : Int) = some (.int (a : Nat)) := atI_lot (by simp)
    have at3 : atI (lotW (a :: b :: d :: cs)) ((2 : Nat) : Int) = some (.int (d : Nat)) := atI_lot (by simp)
    walk_at "go"
    rw [lm]
    by_cases h1 : k = bs.length
    · rw [decide_eq_true (show (k : Int) = (bs.length : Int) by rw [h1])]
      walk_at "go"
      rw [show atI (lotW (a :: b :: d :: cs)) 0 = _ from at1]
      walk_at "go"
      by_cases h2 : a < many
      · rw [decide_eq_false (show ¬(many : Int) ≤ (a : Int) by omega)]
        have h3 : a < cs.length := by omega
        have at4 : atI (lotW (a :: b :: d :: cs)) ((3 + a : Nat) : Int) = some (.int ((cs[a] : Nat) : Int)) := by
          rw [atI_lot (by simp only [List.length_cons]; omega), show 3 + a = a + 3 by omega]
          show some (Dt.int ((cs.getD a 0 : Nat) : Int)) = _
          rw [List.getD_eq_getElem?_getD, List.getElem?_eq_getElem h3]
          rfl
        rw [List.getElem?_eq_getElem h3] at g
        generalize cs[a] = x at at4 g
        walk_at "go"
        rw [show atI (lotW (a :: b :: d :: cs)) 0 = _ from at1]
        walk_at "go"
        rw [show ((3 : Int) + (a : Nat)) = ((3 + a : Nat) : Int) by omega, at4]
        walk_at "go"
        rw [show atI (lotW (a :: b :: d :: cs)) 2 = _ from at3]
        walk_at "go"
        by_cases h5 : x = d
        · rw [decide_eq_true (show (x : Int) = (d : Int) by rw [h5])]
          rw [if_pos ⟨h1, h2, by rw [h5]⟩] at g
          walk_at "go"
          rw [cutW_take (by omega), cutW_drop (by omega)]
          exact g
        · rw [decide_eq_false (show ¬(x : Int) = (d : Int) by omega)]
          rw [if_neg (fun z => h5 (Option.some.inj z.2.2))] at g
          walk_at "go"
          exact g
      · rw [decide_eq_true (show (many : Int) ≤ (a : Int) by omega)]
        rw [if_neg (fun z => h2 z.2.1)] at g
        walk_at "go"
        exact g
    · rw [decide_eq_false (show ¬(k : Int) = (bs.length : Int) by omega)]
      rw [if_neg (fun z => h1 z.1)] at g
      walk_at "go"
      exact g
  · rw [e] at g
    walk_at "go"
    exact g
/-! ### _law_read_entry -/
def prs : List Nat → List (Nat × Nat)
  | a :: b :: r => (a, b) :: prs r
  | _ => []
theorem prs_range : ∀ {m : Nat} {ns : List Nat}, ns.length = 2 * m → (List.range m).map (fun i => (ns.getD (2 * i) 0, ns.getD (2 * i + 1) 0)) = prs ns
  | 0, [], _ => rfl
  | m + 1, a :: b :: r, h => by
    have h : r.length = 2 * m := by
      simp only [List.length_cons] at h
      omega
    rw [List.range_succ_eq_map, List.map_cons, List.map_map, prs, ← prs_range h]
    rfl
  | 0, a :: r, h => by simp at h
  | m + 1, [], h => by simp at h
  | m + 1, [a], h => by
    simp only [List.length_cons, List.length_nil] at h
    omega
theorem mem3 (b : Int) : memW (.int b) [.int 1, .int 2, .int 3] = decide (b = 1 ∨ b = 2 ∨ b = 3) := by
  show (decide ((1 : Int) = b) || (decide ((2 : Int) = b) || (decide ((3 : Int) = b) || false))) = _
  rw [Bool.or_false, ← Bool.decide_or, ← Bool.decide_or, decide_eq_decide]
  omega
def entB (bs : List Int) (p : Nat) : Option (En × Nat) := match bs[p]? with
  | none => none
  | some w => if w = 1 ∨ w = 2 ∨ w = 3 then (match numAt bs (p + 1) with
    | none => none
    | some (n, c) => if n < 100000 then (if w = 1 then (if 1 ≤ n ∧ n ≤ 6 then (match nmsB bs (2 * n.toNat) (p + 1 + c) with
        | none => none
        | some (ns, q) => some (.ord (prs ns), q)) else none) else some (if w = 2 then .out n.toNat else .inn n.toNat, p + 1 + c)) else none) else none
def G__law_read_entry : Fw := fun ws S Q _ => ∃ (bs : List Int) (p : Nat), ws = [.lst (bs.map Dt.int), .int (p : Nat)] ∧ RowOk bs ∧ (∀ e k, entB bs p = some (e, k) → Q (.tup [enD e, .int (k : Nat)]) S) ∧ (entB bs p = none → ∀ q : Nat, Q (.tup [.non, .int (q : Nat)]) S)
theorem ok__law_read_entry (T : Txt P w K mg base c_BadFloor c_NoNumber c_BadRow c_NoRow c_Floor c_Reader) (D : Dfn2 K mg "_law_read_entry" "_law_read_entry" s__law_read_entry ["_law_row", "_law_at"]) (C__law_read_wides : Cal P w K mg base "_law_read_wides" 2 ["_law_row", "_law_at", "_law_many", "_law_most"] 4 G__law_read_wides) (C__law_read_wide : Cal P w K mg base "_law_read_wide" 1 ["_law_row", "_law_at"] 2 G__law_read_wide) : Cal P w K mg base "_law_read_entry" 3 ["_law_row", "_law_at"] 2 G__law_read_entry := by
  refine cal_of D sc__law_read_entry G__law_read_entry rfl fun f cdv A outer s H E hr => ?_
  have hu := hr.units
  refine ⟨_, (jss_cons (js_set (je_if (jt_cmp o_lt (je_var (pv 1)) (je_callB (c_len) (by rfl) T.n_len (by decide +kernel) (ja_cons (je_var (pv 0)) ja_nil)) (nomark _)) (je_ix o_ix (je_var (pv 0)) (je_var (pv 1)) (fun _ _ => rfl)) je_int) (pg_name (i := 2) sc__law_read_entry.nd rfl (by first | exact Or.inl rfl | exact Or.inr rfl))) (jss_cons (js_if (jt_cmp (o_notin hu) (je_var (pv 2)) (je_tup (ja_cons je_int (ja_cons je_int (ja_cons je_int ja_nil)))) (by rfl)) (jss_one (js_ret (je_tup (ja_cons je_non (ja_cons (je_var (pv 1)) ja_nil))))) jss_nil) (jss_cons (js_asg (je_cal C__law_read_wide (hr.mono (by omega)) takes_def (by rfl) (ja_cons (je_var (pv 0)) (ja_cons (je_op o_add (je_var (pv 1)) je_int) ja_nil))) (jg_tup (n := 2) rfl (jgs_cons (jg_name (pg_name (i := 3) sc__law_read_entry.nd rfl (by first | exact Or.inl rfl | exact Or.inr rfl))) (jgs_cons (jg_name (pg_name (i := 1) sc__law_read_entry.nd rfl (by first | exact Or.inl rfl | exact Or.inr rfl))) jgs_nil)))) (jss_cons (js_if (jt_w (jw_or (jt_cmp o_is (je_var (pv 3)) je_non (nomark _)) (jw_one (jt_cmp o_gt (je_var (pv 3)) je_int (nomark _))))) (jss_one (js_ret (je_tup (ja_cons je_non (ja_cons (je_var (pv 1)) ja_nil))))) jss_nil) (jss_cons (js_if (jt_cmp o_gt (je_var (pv 2)) je_int (nomark _)) (jss_one (js_ret (je_tup (ja_cons (je_tup (ja_cons (je_ix o_ix (je_frz (jl_lst (ja_cons je_str (ja_cons je_str ja_nil)))) (je_op o_sub (je_var (pv 2)) je_int) (fun _ _ => rfl)) (ja_cons (je_var (pv 3)) ja_nil))) (ja_cons (je_var (pv 1)) ja_nil))))) jss_nil) (jss_cons (js_if (jt_not (jt_chain o_le o_le je_int (je_var (pv 3)) je_int)) (jss_one (js_ret (je_tup (ja_cons je_non (ja_cons (je_var (pv 1)) ja_nil))))) jss_nil) (jss_cons (js_asg (je_cal C__law_read_wides (hr.mono (by omega)) takes_def (by rfl) (ja_cons (je_var (pv 0)) (ja_cons (je_var (pv 1)) (ja_cons (je_op o_mul je_int (je_var (pv 3))) (ja_cons je_int ja_nil))))) (jg_tup (n := 2) rfl (jgs_cons (jg_name (pg_name (i := 4) sc__law_read_entry.nd rfl (by first | exact Or.inl rfl | exact Or.inr rfl))) (jgs_cons (jg_name (pg_name (i := 1) sc__law_read_entry.nd rfl (by first | exact Or.inl rfl | exact Or.inr rfl))) jgs_nil)))) (jss_cons (js_if (jt_cmp o_is (je_var (pv 4)) je_non (nomark _)) (jss_one (js_ret (je_tup (ja_cons je_non (ja_cons (je_var (pv 1)) ja_nil))))) jss_nil) (jss_one (js_ret (je_tup (ja_cons (je_tup (ja_cons je_str (ja_cons (je_callT c_tuple (by rfl) T.n_tuple (by decide +kernel) (ja_cons (je_frz (jl_comp (own := [("_law_turn", 5)]) rfl sc__law_read_entry.nd (ji_rng1 (by rfl) T.n_range (ja_cons (je_var (pv 3)) ja_nil)) (blkOk_by (N := N__law_read_entry) (sc := defScope s__law_read_entry) (by decide +kernel)) binds_name (fun _ _ _ _ _ => (pg_name (i := 5) sc__law_read_entry.nd rfl (by first | exact Or.inl rfl | exact Or.inr rfl))) (fun _ _ _ _ _ => jts_nil) (fun _ _ _ _ _ => (je_tup (ja_cons (je_ix o_ix (je_var (pv 4)) (je_op o_mul je_int (je_var (pv 5))) (fun _ _ => rfl)) (ja_cons (je_ix o_ix (je_var (pv 4)) (je_op o_add (je_op o_mul je_int (je_var (pv 5))) je_int) (fun _ _ => rfl)) ja_nil)))))) ja_nil)) ja_nil))) (ja_cons (je_var (pv 1)) ja_nil))))))))))))), fun ws S Q Ex hl g => ?_⟩
  obtain ⟨bs, p, rfl, ok, g01, g02⟩ := g
  have g1 : ∀ e k, entB bs p = some (e, k) → clo Q (.tup [enD e, .int (k : Nat)]) S := fun v c e => clo.of (g01 v c e)
  have g2 : entB bs p = none → ∀ q : Nat, clo Q (.tup [.non, .int (q : Nat)]) S := fun e q => clo.of (g02 e q)
  clear g01 g02
  unfold entB at g1 g2
  have lm : (bs.map Dt.int).length = bs.length := List.length_map ..
  walk_at "go"
  rw [lm]
  by_cases h : p < bs.length
  · rw [decide_eq_true (show (p : Int) < (bs.length : Int) by omega)]
    have e2 : bs[p]? = some bs[p] := List.getElem?_eq_getElem h
    have hb := ok.2 _ (List.getElem_mem h)
    have at1 : atI (bs.map Dt.int) (p : Int) = some (.int bs[p]) := by
      rw [Dn.atI_get (Int.natCast_nonneg _), List.getElem?_map, Int.toNat_natCast, e2]
      rfl
    generalize bs[p] = b at e2 hb at1
    rw [e2] at g1 g2
    dsimp only at g1 g2
    walk_at "go"
    rw [at1]
    walk_at "go"
    refine ⟨⟨rfl, rfl⟩, ?_⟩
    rw [mem3]
    by_cases hk : b = 1 ∨ b = 2 ∨ b = 3
    · rw [if_pos hk] at g1 g2
      rw [decide_eq_true hk]
      walk_at "go"
      refine ⟨bs, p + 1, rfl, ok, fun n c ev => ?_, fun ev x hx q => ?_⟩
      · rw [ev] at g1 g2
        dsimp only at g1 g2
        have hn := numAt_in ok.2 ev
        walk_at "go"
        by_cases hs : n < 100000
        · rw [if_pos hs] at g1 g2
          rw [decide_eq_false (show ¬99999 < n by omega)]
          walk_at "go"
          by_cases h1 : b = 1
          · rw [if_pos h1] at g1 g2
            rw [decide_eq_false (show ¬1 < b by omega)]
            walk_at "go"
            by_cases h2 : 1 ≤ n
            · rw [decide_eq_true h2]
              walk_at "go"
              by_cases h3 : n ≤ 6
              · rw [decide_eq_true h3]
                rw [if_pos ⟨h2, h3⟩] at g1 g2
                walk_at "go"
                refine ⟨bs, p + 1 + c, 2 * n.toNat, by rw [show 2 * n = ((2 * n.toNat : Nat) : Int) by omega], ok, by omega, fun ns k e => ?_, fun e q => ?_⟩
                · rw [e] at g1 g2
                  obtain ⟨hl, hm⟩ := nmsB_len e
                  dsimp only at g1 g2
                  walk_at "go"
                  rw [rangeW_0]
                  refine comp_xs (fun i : Nat => .int (i : Nat)) (fun _ => true) (fun i => prD (ns.getD (2 * i) 0, ns.getD (2 * i + 1) 0)) trivial (List.range n.toNat) [] (fun i hi => ?_) ?_ ?_
                  · have hi := List.mem_range.mp hi
                    refine ⟨_, rfl, (fun k hk => hk), fun _ k hk => ?_⟩
                    have a1 := atI_lot (l := ns) (c := 2 * i) (by omega)
                    have a2 := atI_lot (l := ns) (c := 2 * i + 1) (by omega)
                    walk_at "go"
                    rw [show (2 : Int) * (i : Nat) = ((2 * i : Nat) : Int) by omega, a1]
                    walk_at "go"
                    rw [show (2 : Int) * (i : Nat) + 1 = ((2 * i + 1 : Nat) : Int) by omega, a2]
                    walk_at "go"
                    exact hk
                  · rw [List.length_range]
                    show 0 + _ ≤ 16777216
                    omega
                  · rw [show (List.range n.toNat).filter (fun _ => true) = List.range n.toNat from List.filter_eq_self.mpr fun _ _ => rfl, List.nil_append]
                    have g1 := g1 _ _ rfl
                    rw [show enD (.ord (prs ns)) = .tup [.str "orders", .tup ((prs ns).map prD)] from rfl, ← prs_range hl, List.map_map] at g1
                    walk_at "go"
                    exact g1
                · rw [e] at g1 g2
                  dsimp only at g1 g2
                  walk_at "go"
                  exact g2 rfl _
              · rw [decide_eq_false h3]
                rw [if_neg (fun z => h3 z.2)] at g1 g2
                walk_at "go"
                exact g2 rfl _
            · rw [decide_eq_false h2]
              rw [if_neg (fun z => h2 z.1)] at g1 g2
              walk_at "go"
              exact g2 rfl _
          · rw [if_neg h1] at g1 g2
            rw [decide_eq_true (show 1 < b by omega)]
            walk_at "go"
            have hnn : ((n.toNat : Nat) : Int) = n := Int.toNat_of_nonneg hn.1
            by_cases hb2 : b = 2
            · subst hb2
              have g1 := g1 _ _ rfl
              rw [if_pos rfl] at g1
              walk_at "go"
              rw [show enD (.out n.toNat) = .tup [.str "out", .int ((n.toNat : Nat) : Int)] from rfl, hnn] at g1
              exact g1
            · have hb3 : b = 3 := by omega
              subst hb3
              have g1 := g1 _ _ rfl
              rw [if_neg (by decide)] at g1
              walk_at "go"
              rw [show enD (.inn n.toNat) = .tup [.str "in", .int ((n.toNat : Nat) : Int)] from rfl, hnn] at g1
              exact g1
        · rw [if_neg hs] at g1 g2
          rw [decide_eq_true (show 99999 < n by omega)]
          walk_at "go"
          exact g2 rfl _
      · rw [ev] at g1 g2
        dsimp only at g1 g2
        rcases hx with rfl | ⟨v, rfl, hv⟩
        · walk_at "go"
          exact g2 rfl _
        · walk_at "go"
          exact g2 rfl _
    · rw [if_neg hk] at g1 g2
      rw [decide_eq_false hk]
      walk_at "go"
      exact g2 rfl _
  · rw [decide_eq_false (show ¬(p : Int) < (bs.length : Int) by omega)]
    rw [List.getElem?_eq_none (by omega)] at g1 g2
    dsimp only at g1 g2
    walk_at "go"
    exact g2 rfl _
/-! ### _law_read_tell -/
def entsB (bs : List Int) : Nat → Nat → Option (List En × Nat)
  | 0, p => some ([], p)
  | m + 1, p => match entB bs p with
    | none => none
    | some (e, k) => match entsB bs m k with
      | none => none
      | some (es, j) => some (e :: es, j)
def tellB (bs : List Int) (many p : Nat) : Option Lt := match nmsB bs (many + 2) p with
  | none => none
  | some (ns, q) => if ns.getD (many + 1) 0 ≤ 60 then (match entsB bs (ns.getD (many + 1) 0) q with
      | none => none
      | some (es, j) => if j = bs.length then some (.tell (ns.take many) (ns.getD many 0) es) else none) else none
def G__law_read_tell : Fw := fun ws S Q _ => ∃ (bs : List Int) (p many : Nat), ws = [.lst (bs.map Dt.int), .int (p : Nat), .int (many : Nat)] ∧ RowOk bs ∧ many ≤ 1000 ∧ Q (optLt (tellB bs many p)) S
theorem ok__law_read_tell (T : Txt P w K mg base c_BadFloor c_NoNumber c_BadRow c_NoRow c_Floor c_Reader) (D : Dfn2 K mg "_law_read_tell" "_law_read_tell" s__law_read_tell ["_law_row", "_law_at", "_law_many"]) (C__law_read_entry : Cal P w K mg base "_law_read_entry" 3 ["_law_row", "_law_at"] 2 G__law_read_entry) (C__law_read_wides : Cal P w K mg base "_law_read_wides" 2 ["_law_row", "_law_at", "_law_many", "_law_most"] 4 G__law_read_wides) : Cal P w K mg base "_law_read_tell" 4 ["_law_row", "_law_at", "_law_many"] 3 G__law_read_tell := by
  refine cal_of D sc__law_read_tell G__law_read_tell rfl fun f cdv A outer s H E hr => ?_
  have hu := hr.units
  refine ⟨_, (jss_cons (js_asg (je_cal C__law_read_wides (hr.mono (by omega)) takes_def (by rfl) (ja_cons (je_var (pv 0)) (ja_cons (je_var (pv 1)) (ja_cons (je_op o_add (je_var (pv 2)) je_int) (ja_cons je_int ja_nil))))) (jg_tup (n := 2) rfl (jgs_cons (jg_name (pg_name (i := 3) sc__law_read_tell.nd rfl (by first | exact Or.inl rfl | exact Or.inr rfl))) (jgs_cons (jg_name (pg_name (i := 1) sc__law_read_tell.nd rfl (by first | exact Or.inl rfl | exact Or.inr rfl))) jgs_nil)))) (jss_cons (js_if (jt_w (jw_or (jt_cmp o_is (je_var (pv 3)) je_non (nomark _)) (jw_one (jt_cmp o_gt (je_ix o_ix (je_var (pv 3)) (je_un o_neg je_int) (fun _ _ => rfl)) je_int (nomark _))))) (jss_one (js_ret je_non)) jss_nil) (jss_cons (js_set (je_ref (jl_lst ja_nil)) (pg_name (i := 4) sc__law_read_tell.nd rfl (by first | exact Or.inl rfl | exact Or.inr rfl))) (jss_cons (js_for passes_def rfl (ji_rng1 (by rfl) T.n_range (ja_cons (je_ix o_ix (je_var (pv 3)) (je_un o_neg je_int) (fun _ _ => rfl)) ja_nil)) (jg_name (pg_name (i := 5) sc__law_read_tell.nd rfl (by first | exact Or.inl rfl | exact Or.inr rfl))) (jss_cons (js_asg (je_cal C__law_read_entry (hr.mono (by omega)) takes_def (by rfl) (ja_cons (je_var (pv 0)) (ja_cons (je_var (pv 1)) ja_nil))) (jg_tup (n := 2) rfl (jgs_cons (jg_name (pg_name (i := 6) sc__law_read_tell.nd rfl (by first | exact Or.inl rfl | exact Or.inr rfl))) (jgs_cons (jg_name (pg_name (i := 1) sc__law_read_tell.nd rfl (by first | exact Or.inl rfl | exact Or.inr rfl))) jgs_nil)))) (jss_cons (js_if (jt_cmp o_is (je_var (pv 6)) je_non (nomark _)) (jss_one (js_ret je_non)) jss_nil) (jss_one (js_drop (je_meth PySem.F.plainAttrs_list PySem.F.slot_list_append PySem.F.type_list_append m_append (je_var (pv 4)) (ja_cons (je_var (pv 6)) ja_nil))))))) (jss_one (js_ret (je_if (jt_cmp (o_eq hu) (je_var (pv 1)) (je_callB (c_len) (by rfl) T.n_len (by decide +kernel) (ja_cons (je_var (pv 0)) ja_nil)) (nomark _)) (je_tup (ja_cons je_str (ja_cons (je_slice o_slice (je_var (pv 3)) jo_none (jo_some (je_var (pv 2)))) (ja_cons (je_ix o_ix (je_var (pv 3)) (je_var (pv 2)) (fun _ _ => rfl)) (ja_cons (je_callT c_tuple (by rfl) T.n_tuple (by decide +kernel) (ja_cons (je_var (pv 4)) ja_nil)) ja_nil))))) je_non))))))), fun ws S Q Ex hl g => ?_⟩
  obtain ⟨bs, p, many, rfl, ok, hm, g0⟩ := g
  have g : clo Q (optLt (tellB bs many p)) S := clo.of g0
  clear g0
  unfold tellB at g
  have lm : (bs.map Dt.int).length = bs.length := List.length_map ..
  walk_at "go"
  refine ⟨bs, p, many + 2, rfl, ok, by omega, fun ns k e => ?_, fun e q => ?_⟩
  · rw [e] at g
    obtain ⟨hl, hb⟩ := nmsB_len e
    dsimp only at g
    have lw : (lotW ns).length = many + 1 + 1 := by rw [← hl]; exact List.length_map ..
    have atl : atI (lotW ns) (-1) = some (.int ((ns.getD (many + 1) 0 : Nat) : Int)) := by
      have h := atI_lot (l := ns) (c := many + 1) (by omega)
      rw [Dn.atI_get (Int.natCast_nonneg _), Int.toNat_natCast] at h
      rw [atI_neg1 lw, h]
    have atm : atI (lotW ns) (many : Int) = some (.int ((ns.getD many 0 : Nat) : Int)) := atI_lot (by omega)
    generalize ns.getD (many + 1) 0 = n at atl g
    generalize ns.getD many 0 = f at atm g
    walk_at "go"
    rw [atl]
    walk_at "go"
    by_cases h6 : n ≤ 60
    · rw [decide_eq_false (show ¬60 < (n : Int) by omega)]
      rw [if_pos h6] at g
      walk_at "go"
      intro r hr
      walk_at "go"
      rw [atl]
      walk_at "go"
      rw [Int.toNat_natCast, rangeW_0]
      refine forW_rule (fun i σ S' => ∃ (es : List En) (q : Nat) (y5 y6 : Option Dt), σ = [some (.lst (bs.map Dt.int)), some (.int (q : Nat)), some (.int (many : Nat)), some (.tup (lotW ns)), some (.ref r), y5, y6] ∧ S' = sup S r (.lst (es.map enD)) ∧ es.length = i ∧ i ≤ n ∧ entsB bs n k = (match entsB bs (n - i) q with | none => none | some (us, j) => some (es ++ us, j))) ⟨[], k, _, _, rfl, rfl, rfl, Nat.zero_le _, ?_⟩ ?_ ?_
      · rw [Nat.sub_zero]
        cases entsB bs n k with
        | none => rfl
        | some v => rfl
      · rintro i w σ S' N ew ⟨es, q, y5, y6, rfl, rfl, hns, hi, he⟩ hN
        have him : i < n := by
          have := (List.getElem?_eq_some_iff.mp ew).1
          rw [List.length_map, List.length_range] at this
          exact this
        refine ⟨trivial, ?_⟩
        rw [show n - i = (n - (i + 1)) + 1 by omega, entsB] at he
        walk_at "go"
        refine ⟨bs, q, rfl, ok, fun v c ev => ?_, fun ev q' => ?_⟩
        · rw [ev] at he
          dsimp only at he
          have hne : Dn.isNon (enD v) = false := by cases v <;> rfl
          walk_at "go"
          rw [hne]
          walk_at "go"
          refine ⟨tyW_at sup_same, ?_⟩
          walk_at "go"
          refine ⟨by rw [List.length_map]; show _ < 16777216; omega, ?_⟩
          rw [sup_sup]
          refine hN _ _ ⟨es ++ [v], c, _, _, rfl, ?_, by rw [List.length_append, hns]; rfl, by omega, ?_⟩
          · rw [List.map_append]
            rfl
          · rw [he]
            cases entsB bs (n - (i + 1)) c with
            | none => rfl
            | some z =>
              dsimp only
              rw [List.append_assoc]
              rfl
        · rw [ev] at he
          dsimp only at he
          rw [he] at g
          walk_at "go"
          exact clo_sub g (sub_sup hr)
      · rintro σ S' ⟨es, q, y5, y6, rfl, rfl, hns, hi, he⟩
        refine ⟨trivial, ?_⟩
        rw [List.length_map, List.length_range, Nat.sub_self, entsB] at he
        dsimp only at he
        rw [List.append_nil] at he
        rw [he] at g
        dsimp only at g
        walk_at "go"
        rw [lm]
        by_cases hq : q = bs.length
        · rw [if_pos hq] at g
          rw [decide_eq_true (show (q : Int) = (bs.length : Int) by rw [hq])]
          walk_at "go"
          rw [atm]
          walk_at "go"
          rw [lsv_at sup_same]
          walk_at "go"
          rw [cutW_take (by omega), Int.toNat_natCast]
          rw [show optLt (some (.tell (ns.take many) f es)) = .tup [.str "tell", .tup (lotW (ns.take many)), .int (f : Nat), .tup (es.map enD)] from rfl, show lotW (ns.take many) = (lotW ns).take many from List.map_take ..] at g
          exact clo_sub g (sub_sup hr)
        · rw [if_neg hq] at g
          rw [decide_eq_false (show ¬(q : Int) = (bs.length : Int) by omega)]
          walk_at "go"
          exact clo_sub g (sub_sup hr)
    · rw [decide_eq_true (show 60 < (n : Int) by omega)]
      rw [if_neg h6] at g
      walk_at "go"
      exact g
  · rw [e] at g
    walk_at "go"
    exact g
/-! ### _law_whole -/
def G__law_whole : Fw := fun ws S Q _ => ∃ i : Int, ws = [.int i, .int 0, .int 255] ∧ 0 ≤ i ∧ i ≤ 255 ∧ Q (.bl true) S
theorem ok__law_whole (T : Txt P w K mg base c_BadFloor c_NoNumber c_BadRow c_NoRow c_Floor c_Reader) (D : Dfn2 K mg "_law_whole" "_law_whole" s__law_whole ["_law_thing", "_law_least", "_law_most"])  : Cal P w K mg base "_law_whole" 1 ["_law_thing", "_law_least", "_law_most"] 3 G__law_whole := by
  refine cal_of D sc__law_whole G__law_whole rfl fun f cdv A outer s H E hr => ?_
  have hu := hr.units
  refine ⟨_, (jss_one (js_ret (je_and (je_callB (c_isi) (by rfl) T.n_isinstance (by decide +kernel) (ja_cons (je_var (pv 0)) (ja_cons (je_bty (T := "int") (by rfl) T.n_int (by decide +kernel)) ja_nil))) (je_and (je_not (je_callB (c_isi) (by rfl) T.n_isinstance (by decide +kernel) (ja_cons (je_var (pv 0)) (ja_cons (je_bty (T := "bool") (by rfl) T.n_bool (by decide +kernel)) ja_nil)))) (je_one (je_chain o_le o_le (je_var (pv 1)) (je_var (pv 0)) (je_var (pv 2)))))))), fun ws S Q Ex hl g => ?_⟩
  obtain ⟨i, rfl, h0, h1, g0⟩ := g
  have g : clo Q (.bl true) S := clo.of g0
  clear g0
  walk_at "go"
  rw [decide_eq_true h0]
  walk_at "go"
  rw [decide_eq_true h1]
  walk_at "go"
  exact g
/-! ### _law_read -/
def ownB (many m : Nat) (bs : List Int) : Option Lt := match unslF bs with
  | none => none
  | some r => if bs.length < 6 then none else (match r[0]? with
    | none => none
    | some k => if k = 1 ∨ k = 2 then (match numAt r 1 with
      | none => none
      | some (n, c) => if n = (m : Int) then (if k = 1 then sayB r many (1 + c) else tellB r many (1 + c)) else none) else none)
theorem mem2 (k : Int) : memW (.lst [.int k]) [.lst [.int 1], .lst [.int 2]] = decide (k = 1 ∨ k = 2) := by
  show ((decide ((1 : Int) = k) && true) || ((decide ((2 : Int) = k) && true) || false)) = _
  rw [Bool.or_false, Bool.and_true, Bool.and_true, ← Bool.decide_or, decide_eq_decide]
  omega
theorem cutm4 {bs : List Int} (h : 4 ≤ bs.length) : cutW (bs.map Dt.int) none (some (-4)) = (bs.take (bs.length - 4)).map Dt.int := by
  unfold cutW
  rw [List.length_map]
  have e0 : HT.sIx bs.length 0 none = 0 := rfl
  have e1 : HT.sIx bs.length bs.length (some (-4)) = bs.length - 4 := by
    show (if (-4 : Int) < 0 then ((-4 : Int) + ((bs.length : Nat) : Int)).toNat else min (-4 : Int).toNat bs.length) = bs.length - 4
    rw [if_pos (by decide)]
    omega
  rw [e0, e1, List.drop_zero, Nat.sub_zero, List.map_take]
theorem unsl_iff {bs : List Int} (h : 4 ≤ bs.length) : unslF bs = if slF (bs.take (bs.length - 4)) = bs then some (bs.take (bs.length - 4)) else none := by
  unfold unslF slF
  rw [if_neg (by omega)]
  have key : (sealF (bs.take (bs.length - 4)) = bs.drop (bs.length - 4)) ↔ (bs.take (bs.length - 4) ++ sealF (bs.take (bs.length - 4)) = bs) := by
    constructor
    · intro e
      rw [e, List.take_append_drop]
    · intro e
      have e2 : bs.take (bs.length - 4) ++ sealF (bs.take (bs.length - 4)) = bs.take (bs.length - 4) ++ bs.drop (bs.length - 4) := by rw [e, List.take_append_drop]
      exact List.append_cancel_left e2
  by_cases hk : sealF (bs.take (bs.length - 4)) = bs.drop (bs.length - 4)
  · rw [if_pos hk, if_pos (key.mp hk)]
  · rw [if_neg hk, if_neg (fun z => hk (key.mpr z))]
def G__law_read : Fw := fun ws S Q _ => ∃ (many m : Nat) (bs : List Int), ws = [.int (many : Nat), .int (m : Nat), .tup (bs.map Dt.int)] ∧ RowOk bs ∧ many ≤ 1000 ∧ m < 4294967296 ∧ Q (optLt (ownB many m bs)) S
theorem ok__law_read (T : Txt P w K mg base c_BadFloor c_NoNumber c_BadRow c_NoRow c_Floor c_Reader) (D : Dfn2 K mg "_law_read" "_law_read" s__law_read ["_law_many", "_law_match_here", "_law_thing"]) (C__law_read_say : Cal P w K mg base "_law_read_say" 3 ["_law_row", "_law_at", "_law_many"] 3 G__law_read_say) (C__law_read_tell : Cal P w K mg base "_law_read_tell" 4 ["_law_row", "_law_at", "_law_many"] 3 G__law_read_tell) (C__law_read_wide : Cal P w K mg base "_law_read_wide" 1 ["_law_row", "_law_at"] 2 G__law_read_wide) (C__law_seal : Cal P w K mg base "_law_seal" 2 ["_law_row"] 1 G__law_seal) (C__law_whole : Cal P w K mg base "_law_whole" 1 ["_law_thing", "_law_least", "_law_most"] 3 G__law_whole) : Cal P w K mg base "_law_read" 5 ["_law_many", "_law_match_here", "_law_thing"] 3 G__law_read := by
  refine cal_of D sc__law_read G__law_read rfl fun f cdv A outer s H E hr => ?_
  have hu := hr.units
  refine ⟨_, (jss_cons (js_if (jt_w (jw_or (jt_not (jt_val (je_callB (c_isi) (by rfl) T.n_isinstance (by decide +kernel) (ja_cons (je_var (pv 2)) (ja_cons (je_bty (T := "tuple") (by rfl) T.n_tuple (by decide +kernel)) ja_nil))))) (jw_or (jt_not (jt_val (je_callB (c_all rfl) (by rfl) T.n_all (by decide +kernel) (ja_cons (je_frz (jl_comp (own := [("_law_byte", 6)]) rfl sc__law_read.nd (ji_seq (je_var (pv 2))) (blkOk_by (N := N__law_read) (sc := defScope s__law_read) (by decide +kernel)) binds_name (fun _ _ _ _ _ => (pg_name (i := 6) sc__law_read.nd rfl (by first | exact Or.inl rfl | exact Or.inr rfl))) (fun _ _ _ _ _ => jts_nil) (fun _ _ _ _ _ => (je_cal C__law_whole (hr.mono (by omega)) takes0 (by rfl) (ja_cons (je_var (pv 6)) (ja_cons je_int (ja_cons je_int ja_nil))))))) ja_nil)))) (jw_one (jt_cmp o_lt (je_callB (c_len) (by rfl) T.n_len (by decide +kernel) (ja_cons (je_var (pv 2)) ja_nil)) je_int (nomark _)))))) (jss_one (js_ret je_non)) jss_nil) (jss_cons (js_set (je_frz (jl_callT c_list (by rfl) T.n_list (by decide +kernel) (ja_cons (je_slice o_slice (je_var (pv 2)) jo_none (jo_some (je_un o_neg je_int))) ja_nil))) (pg_name (i := 3) sc__law_read.nd rfl (by first | exact Or.inl rfl | exact Or.inr rfl))) (jss_cons (js_if (jt_w (jw_or (jt_cmp (o_ne hu) (je_cal C__law_seal (hr.mono (by omega)) takes_def (by rfl) (ja_cons (je_var (pv 3)) ja_nil)) (je_var (pv 2)) (nomark _)) (jw_one (jt_cmp (o_notinD hu) (je_slice o_slice (je_var (pv 3)) jo_none (jo_some je_int)) (je_tup (ja_cons (je_frz (jl_lst (ja_cons je_int ja_nil))) (ja_cons (je_frz (jl_lst (ja_cons je_int ja_nil))) ja_nil))) (by rfl))))) (jss_one (js_ret je_non)) jss_nil) (jss_cons (js_asg (je_cal C__law_read_wide (hr.mono (by omega)) takes_def (by rfl) (ja_cons (je_var (pv 3)) (ja_cons je_int ja_nil))) (jg_tup (n := 2) rfl (jgs_cons (jg_name (pg_name (i := 4) sc__law_read.nd rfl (by first | exact Or.inl rfl | exact Or.inr rfl))) (jgs_cons (jg_name (pg_name (i := 5) sc__law_read.nd rfl (by first | exact Or.inl rfl | exact Or.inr rfl))) jgs_nil)))) (jss_cons (js_if (jt_w (jw_or (jt_cmp o_is (je_var (pv 4)) je_non (nomark _)) (jw_one (jt_cmp (o_ne hu) (je_var (pv 4)) (je_var (pv 1)) (nomark _))))) (jss_one (js_ret je_non)) jss_nil) (jss_one (js_ret (je_if (jt_cmp (o_eq hu) (je_ix o_ix (je_var (pv 3)) je_int (fun _ _ => rfl)) je_int (nomark _)) (je_cal C__law_read_say (hr.mono (by omega)) takes_def (by rfl) (ja_cons (je_var (pv 3)) (ja_cons (je_var (pv 5)) (ja_cons (je_var (pv 0)) ja_nil)))) (je_cal C__law_read_tell (hr.mono (by omega)) takes_def (by rfl) (ja_cons (je_var (pv 3)) (ja_cons (je_var (pv 5)) (ja_cons (je_var (pv 0)) ja_nil)))))))))))), fun ws S Q Ex hl g => ?_⟩
  obtain ⟨many, m, bs, rfl, ok, hmy, hm, g0⟩ := g
  have g : clo Q (optLt (ownB many m bs)) S := clo.of g0
  clear g0
  unfold ownB at g
  have lm : (bs.map Dt.int).length = bs.length := List.length_map ..
  walk_at "go"
  refine comp_xs (fun i : Int => .int i) (fun _ => true) (fun _ => .bl true) trivial bs [] (fun i hi => ?_) ?_ ?_
  · refine ⟨_, rfl, (fun k hk => hk), fun _ k hk => ?_⟩
    have := ok.2 i hi
    walk_at "go"
    refine ⟨i, rfl, this.1, this.2, ?_⟩
    walk_at "go"
    exact hk
  · show 0 + _ ≤ 16777216
    have := ok.1
    omega
  · walk_at "go"
    refine ⟨bs.map fun _ => true, by rw [List.filter_eq_self.mpr fun _ _ => rfl, List.map_map]; rfl, ?_⟩
    rw [show (bs.map fun _ => true).all id = true from by rw [List.all_eq_true]; intro b hb; obtain ⟨_, _, rfl⟩ := List.mem_map.mp hb; rfl]
    walk_at "go"
    rw [lm]
    by_cases h6 : bs.length < 6
    · rw [decide_eq_true (show (bs.length : Int) < 6 by omega)]
      have g : clo Q .non S := by
        cases e : unslF bs with
        | none => rw [e] at g; exact g
        | some r => rw [e] at g; dsimp only at g; rw [if_pos h6] at g; exact g
      walk_at "go"
      exact g
    · rw [decide_eq_false (show ¬(bs.length : Int) < 6 by omega)]
      rw [unsl_iff (by omega)] at g
      have hr : RowOk (bs.take (bs.length - 4)) := ⟨Nat.le_trans (by rw [List.length_take]; omega) ok.1, fun b hb => ok.2 b (List.mem_of_mem_take hb)⟩
      have hrl : (bs.take (bs.length - 4)).length = bs.length - 4 := by rw [List.length_take]; omega
      walk_at "go"
      rw [cutm4 (by omega)]
      generalize bs.take (bs.length - 4) = r at g hr hrl
      refine ⟨r, .inl rfl, hr.1, ?_⟩
      walk_at "go"
      refine ⟨fl_ints _ _, fl_ints _ _, ?_⟩
      rw [eqD_ints]
      by_cases he : slF r = bs
      · rw [decide_eq_true he]
        rw [if_pos he] at g
        dsimp only at g
        rw [if_neg h6] at g
        obtain ⟨k, r2, rfl⟩ : ∃ k r2, r = k :: r2 := by
          cases r with
          | nil => simp only [List.length_nil] at hrl; omega
          | cons k r2 => exact ⟨k, r2, rfl⟩
        rw [show (k :: r2)[0]? = some k from rfl] at g
        dsimp only at g
        have at0 : atI ((k :: r2).map Dt.int) 0 = some (.int k) := (Dn.atI_get (by decide)).trans rfl
        walk_at "go"
        rw [show cutW ((k :: r2).map Dt.int) none (some 1) = [Dt.int k] from by rw [cutW_take (by decide)]; rfl, mem2]
        refine ⟨⟨rfl, rfl⟩, ?_⟩
        by_cases hk : k = 1 ∨ k = 2
        · rw [decide_eq_true hk]
          rw [if_pos hk] at g
          walk_at "go"
          refine ⟨k :: r2, 1, rfl, hr, fun n c ev => ?_, fun ev x hx q => ?_⟩
          · rw [ev] at g
            dsimp only at g
            have hn := numAt_in hr.2 ev
            walk_at "go"
            by_cases hnm : n = (m : Int)
            · rw [decide_eq_true hnm]
              rw [if_pos hnm] at g
              walk_at "go"
              by_cases h1 : k = 1
              · rw [if_pos h1] at g
                rw [at0]
                walk_at "go"
                exact ⟨k :: r2, 1 + c, many, rfl, hr, hmy, g⟩
              · rw [if_neg h1] at g
                rw [at0]
                walk_at "go"
                exact ⟨k :: r2, 1 + c, many, rfl, hr, hmy, g⟩
            · rw [decide_eq_false hnm]
              rw [if_neg hnm] at g
              walk_at "go"
              exact g
          · rw [ev] at g
            dsimp only at g
            rcases hx with rfl | ⟨v, rfl, hv⟩
            · walk_at "go"
              exact g
            · walk_at "go"
              rw [decide_eq_false (show ¬v = (m : Int) by omega)]
              walk_at "go"
              exact g
        · rw [decide_eq_false hk]
          rw [if_neg hk] at g
          walk_at "go"
          exact g
      · rw [decide_eq_false he]
        rw [if_neg he] at g
        walk_at "go"
        exact g
/-! ### check_row -/
def G_check_row (c_NoRow : Addr) : Fw := fun ws S Q Ex => ∃ w, ws = [w] ∧ pl w = true ∧ (rowW w = true → Q .non S) ∧ (rowW w = false → Ex ⟨.ref c_NoRow, none⟩ S)
theorem ok_check_row (T : Txt P w K mg base c_BadFloor c_NoNumber c_BadRow c_NoRow c_Floor c_Reader) (D : Dfn2 K mg "check_row" "check_row" s_check_row ["thing"]) (C_is_row_rows : Cal P w K mg base "is_row_rows" 4 ["thing"] 1 G_is_row_rows) : Cal P w K mg base "check_row" 5 ["thing"] 1 (G_check_row c_NoRow) := by
  refine cal_of D sc_check_row (G_check_row c_NoRow) rfl fun f cdv A outer s H E hr => ?_
  have hu := hr.units
  refine ⟨_, (jss_one (js_if (jt_not (jt_val (je_cal C_is_row_rows (hr.mono (by omega)) takes_def (by rfl) (ja_cons (je_var (pv 0)) ja_nil)))) (jss_one (js_raise rfl takes_def (jr_exc0 T.x_NoRow (by rfl)))) jss_nil)), fun ws S Q Ex hl g => ?_⟩
  obtain ⟨w, rfl, kw, g1, g2⟩ := g
  walk_at "dn"
  refine ⟨w, rfl, kw, ?_⟩
  cases h : rowW w with
  | true => exact clo.of (g1 h)
  | false => exact clX.of (g2 h)
/-! ### unsealed -/
def G_unsealed (c_NoRow : Addr) : Fw := fun ws S Q Ex => ∃ w, ws = [w] ∧ pl w = true ∧ (∀ bs, w = .tup (bs.map Dt.int) → RowOk bs → Q (optRow (unslF bs)) S) ∧ (rowW w = false → Ex ⟨.ref c_NoRow, none⟩ S)
theorem ok_unsealed (T : Txt P w K mg base c_BadFloor c_NoNumber c_BadRow c_NoRow c_Floor c_Reader) (D : Dfn2 K mg "unsealed" "unsealed" s_unsealed ["row"]) (C_without_seal : Cal P w K mg base "without_seal" 4 ["row"] 1 G_without_seal) (C_check_row : Cal P w K mg base "check_row" 5 ["thing"] 1 (G_check_row c_NoRow)) : Cal P w K mg base "unsealed" 6 ["row"] 1 (G_unsealed c_NoRow) := by
  refine cal_of D sc_unsealed (G_unsealed c_NoRow) rfl fun f cdv A outer s H E hr => ?_
  have hu := hr.units
  refine ⟨_, (jss_cons (js_drop (je_cal C_check_row (hr.mono (by omega)) takes_def (by rfl) (ja_cons (je_var (pv 0)) ja_nil))) (jss_one (js_ret (je_cal C_without_seal (hr.mono (by omega)) takes_def (by rfl) (ja_cons (je_var (pv 0)) ja_nil))))), fun ws S Q Ex hl g => ?_⟩
  obtain ⟨w, rfl, kw, g1, g2⟩ := g
  walk_at "go"
  refine ⟨w, rfl, kw, fun h => ?_, fun h => clX.of (g2 h)⟩
  obtain ⟨bs, rfl, hl, hb⟩ := rowW_of h
  walk_at "go"
  exact ⟨bs, rfl, clo.of (g1 bs rfl ⟨hl, hb⟩)⟩
/-! ### _law_deep -/
/-- a plain thing that is neither a byte nor a row -/
def NR (x : Dt) : Prop := pl x = true ∧ rowW x = false ∧ inW x 0 255 = false
theorem nr_one {x : Dt} (h : NR x) : NR (.tup [x]) := ⟨pl_tup_of fun w hw => by rw [List.mem_singleton] at hw; rw [hw]; exact h.1, by
  rw [rowW_tup, List.all_cons, h.2.2]
  rfl, rfl⟩
theorem nr_lst {x : Dt} (h : NR x) : NR (.lst [x]) := ⟨by unfold pl; exact plL_of fun w hw => by rw [List.mem_singleton] at hw; rw [hw]; exact h.1, rfl, rfl⟩
theorem nr_dct {x : Dt} {k : Key} (h : NR x) : NR (.dK [k] [x]) := ⟨by unfold pl; exact plL_of fun w hw => by rw [List.mem_singleton] at hw; rw [hw]; exact h.1, rfl, rfl⟩
def G__law_deep : Fw := fun ws S Q _ => ∃ (h : Addr) (hd : List Dt), ws = [.ref h] ∧ S h = some (.lst hd) ∧ HandL hd ∧ ∀ x hd', NR x → HandL hd' → Q x (sup S h (.lst hd'))
theorem ok__law_deep (T : Txt P w K mg base c_BadFloor c_NoNumber c_BadRow c_NoRow c_Floor c_Reader) (D : Dfn2 K mg "_law_deep" "_law_deep" s__law_deep ["_law_hand_here"]) (C__law_draw : Cal P w K mg base "_law_draw" 1 ["_law_hand_here", "_law_many"] 2 G__law_draw) : Cal P w K mg base "_law_deep" 2 ["_law_hand_here"] 1 G__law_deep := by
  refine cal_of D sc__law_deep G__law_deep rfl fun f cdv A outer s H E hr => ?_
  have hu := hr.units
  refine ⟨_, (jss_cons (js_set (je_ix o_ix (je_frz (jl_lst (ja_cons je_non (ja_cons je_str (ja_cons (je_un o_neg je_int) (ja_cons je_dict0 ja_nil)))))) (je_cal C__law_draw (hr.mono (by omega)) takes_def (by rfl) (ja_cons (je_var (pv 0)) (ja_cons je_int ja_nil))) (fun _ _ => rfl)) (pg_name (i := 1) sc__law_deep.nd rfl (by first | exact Or.inl rfl | exact Or.inr rfl))) (jss_cons (js_for passes_def rfl (ji_rng1 (by rfl) T.n_range (ja_cons (je_op o_add je_int (je_cal C__law_draw (hr.mono (by omega)) takes_def (by rfl) (ja_cons (je_var (pv 0)) (ja_cons je_int ja_nil)))) ja_nil)) (jg_name (pg_name (i := 2) sc__law_deep.nd rfl (by first | exact Or.inl rfl | exact Or.inr rfl))) (jss_one (js_set (je_ix o_ix (je_frz (jl_lst (ja_cons (je_tup (ja_cons (je_var (pv 1)) ja_nil)) (ja_cons (je_frz (jl_lst (ja_cons (je_var (pv 1)) ja_nil))) (ja_cons (je_slice o_slice (je_tup (ja_cons (je_var (pv 1)) (ja_cons (je_var (pv 1)) ja_nil))) jo_none (jo_some je_int)) (ja_cons (je_frzD (jd_disp (.cons je_int (je_var (pv 1)) .nil) (by decide) (by decide))) ja_nil)))))) (je_cal C__law_draw (hr.mono (by omega)) takes_def (by rfl) (ja_cons (je_var (pv 0)) (ja_cons je_int ja_nil))) (fun _ _ => rfl)) (pg_name (i := 1) sc__law_deep.nd rfl (by first | exact Or.inl rfl | exact Or.inr rfl))))) (jss_one (js_ret (je_var (pv 1)))))), fun ws S Q Ex hl g => ?_⟩
  obtain ⟨h, hd, rfl, hS, hh, g⟩ := g
  have g : ∀ x hd', NR x → HandL hd' → clo Q x (sup S h (.lst hd')) := fun x hd' a b => clo.of (g x hd' a b)
  walk_at "go"
  refine ⟨h, 4, hd, rfl, hS, hh, by decide, log_small (by decide), fun k hd k0 k1 hh => ?_⟩
  walk_at "go"
  obtain ⟨w, e2, hm⟩ := atI_some k0 (xs := [Dt.non, .str "a", .int (-1), .dK [] []]) (by show k < 4; exact k1)
  rw [show atI _ k = _ from e2]
  have tw : NR w := by
    simp only [List.mem_cons, List.not_mem_nil, or_false] at hm
    rcases hm with rfl | rfl | rfl | rfl <;> exact ⟨rfl, rfl, rfl⟩
  clear hm e2
  walk_at "go"
  refine ⟨h, 30, hd, rfl, sup_same, hh, by decide, log_small (by decide), fun m hd m0 m1 hh => ?_⟩
  rw [sup_sup]
  walk_at "go"
  refine forW_rule (fun i σ S' => ∃ (w : Dt) (hd : List Dt) (y2 : Option Dt), σ = [some (.ref h), some w, y2] ∧ S' = sup S h (.lst hd) ∧ HandL hd ∧ NR w) ⟨w, hd, none, rfl, rfl, hh, tw⟩ ?_ ?_
  · clear hh tw
    rintro i v σ S' N ew ⟨w, hd, y2, rfl, rfl, hh, tw⟩ hN
    refine ⟨trivial, ?_⟩
    walk_at "go"
    refine ⟨[.inl 0], [w], ⟨rfl, rfl, trivial⟩, by simp, Nat.le_of_ble_eq_true rfl, ?_⟩
    walk_at "go"
    refine ⟨h, 4, hd, rfl, sup_same, hh, by decide, log_small (by decide), fun k hd k0 k1 hh => ?_⟩
    rw [sup_sup]
    walk_at "go"
    obtain ⟨z, e2, hm⟩ := atI_some k0 (xs := [.tup [w], .lst [w], .tup (cutW [w, w] none (some 1)), .dK [.inl 0] [w]]) (by show k < 4; exact k1)
    rw [show atI _ k = _ from e2]
    walk_at "go"
    refine hN _ _ ⟨z, hd, _, rfl, rfl, hh, ?_⟩
    simp only [List.mem_cons, List.not_mem_nil, or_false] at hm
    rcases hm with rfl | rfl | rfl | rfl
    · exact nr_one tw
    · exact nr_lst tw
    · exact nr_one tw
    · exact nr_dct tw
  · clear hh
    rintro σ S' ⟨w, hd, y2, rfl, rfl, hh, tw⟩
    refine ⟨trivial, ?_⟩
    walk_at "go"
    exact g w hd tw hh
/-! ### law -/
theorem lot_inj : ∀ {a b : List Nat}, lotW a = lotW b → a = b
  | [], [], _ => rfl
  | [], b :: bs, h => by cases h
  | a :: as, [], h => by cases h
  | a :: as, b :: bs, h => by
    have h : Dt.int (a : Nat) :: lotW as = .int (b : Nat) :: lotW bs := h
    injection h with h1 h2
    injection h1 with h1
    rw [lot_inj h2, Int.ofNat_inj.mp h1]
theorem pr_inj {a b : Nat × Nat} (h : prD a = prD b) : a = b := by
  unfold prD at h
  injection h with h
  injection h with h1 h2
  injection h2 with h2 _
  injection h1 with h1
  injection h2 with h2
  exact Prod.ext (Int.ofNat_inj.mp h1) (Int.ofNat_inj.mp h2)
theorem map_inj {α : Type} {f : α → Dt} (hf : ∀ a b, f a = f b → a = b) : ∀ {a b : List α}, a.map f = b.map f → a = b
  | [], [], _ => rfl
  | [], b :: bs, h => by cases h
  | a :: as, [], h => by cases h
  | a :: as, b :: bs, h => by
    rw [List.map_cons, List.map_cons] at h
    injection h with h1 h2
    rw [hf a b h1, map_inj hf h2]
theorem en_inj {a b : En} (h : enD a = enD b) : a = b := by
  have two : ∀ {x y : Str} {v w : Dt}, Dt.tup [.str x, v] = .tup [.str y, w] → x = y ∧ v = w := fun e => by
    injection e with e
    injection e with e1 e
    injection e with e _
    injection e1 with e1
    exact ⟨e1, e⟩
  cases a with
  | ord ps => cases b with
    | ord qs =>
      have := (two h).2
      injection this with this
      rw [map_inj (fun _ _ => pr_inj) this]
    | out n => exact absurd (two h).1 (by decide)
    | inn n => exact absurd (two h).1 (by decide)
  | out n => cases b with
    | ord qs => exact absurd (two h).1 (by decide)
    | out m =>
      have := (two h).2
      injection this with this
      rw [Int.ofNat_inj.mp this]
    | inn m => exact absurd (two h).1 (by decide)
  | inn n => cases b with
    | ord qs => exact absurd (two h).1 (by decide)
    | out m => exact absurd (two h).1 (by decide)
    | inn m =>
      have := (two h).2
      injection this with this
      rw [Int.ofNat_inj.mp this]
theorem lt_inj {a b : Lt} (h : ltD a = ltD b) : a = b := by
  cases a with
  | say n h1 d cs => cases b with
    | say n' h' d' cs' =>
      unfold ltD at h
      simp only [Dt.tup.injEq, List.cons.injEq, Dt.int.injEq, Int.ofNat_inj, true_and, and_true] at h
      obtain ⟨e1, e2, e3, e4⟩ := h
      rw [e1, e2, e3, lot_inj e4]
    | tell cs f es =>
      unfold ltD at h
      simp at h
  | tell cs f es => cases b with
    | say n' h' d' cs' =>
      unfold ltD at h
      simp at h
    | tell cs' f' es' =>
      unfold ltD at h
      simp only [Dt.tup.injEq, List.cons.injEq, Dt.int.injEq, Int.ofNat_inj, true_and, and_true] at h
      obtain ⟨e1, e2, e3⟩ := h
      rw [lot_inj e1, e2, map_inj (fun _ _ => en_inj) e3]
/-- the bytes of a letter -/
theorem fig_b {n : Nat} (h : n < 18446744073709551616) : ∀ b ∈ figF 10 (n : Nat), 0 ≤ b ∧ b ≤ 255 := figF_byte (by omega) (by
  have : (128 : Int) ^ (10 + 1) = 151115727451828646838272 := by decide +kernel
  rw [this]
  omega)
theorem wh_b {ns : List Nat} (h : ∀ n ∈ ns, n < 18446744073709551616) : ∀ b ∈ wh ns, 0 ≤ b ∧ b ≤ 255 := fun b hb => by
  obtain ⟨n, hn, hb⟩ := List.mem_flatMap.mp hb
  exact fig_b (h n hn) b hb
theorem enR_b {e : En} (ok : EnOk e) : ∀ b ∈ enR e, 0 ≤ b ∧ b ≤ 255 := fun b hb => by
  cases e with
  | ord ps =>
    obtain ⟨o1, o2, o3⟩ := ok
    rcases List.mem_cons.mp hb with rfl | hb
    · omega
    · rcases List.mem_append.mp hb with hb | hb
      · exact fig_b (by omega) b hb
      · obtain ⟨q, hq, hb⟩ := List.mem_flatMap.mp hb
        have := o3 q hq
        rcases List.mem_append.mp hb with hb | hb
        · exact fig_b (by omega) b hb
        · exact fig_b (by omega) b hb
  | out n =>
    have ok : n < 4294967296 := ok
    rcases List.mem_cons.mp hb with rfl | hb
    · omega
    · exact fig_b (by omega) b hb
  | inn n =>
    have ok : n < 4294967296 := ok
    rcases List.mem_cons.mp hb with rfl | hb
    · omega
    · exact fig_b (by omega) b hb
theorem ltB_b {many m : Nat} {l : Lt} (hmy : many ≤ 1000) (hm : m < 4294967296) (ok : LtOk many l) : ∀ b ∈ ltB m l, 0 ≤ b ∧ b ≤ 255 := fun b hb => by
  cases l with
  | say n h d cs =>
    obtain ⟨o1, o2, o3, o4, o5, o6⟩ := ok
    rcases List.mem_cons.mp hb with rfl | hb
    · omega
    · rcases List.mem_append.mp hb with hb | hb
      · rcases List.mem_append.mp hb with hb | hb
        · exact fig_b (by omega) b hb
        · exact wh_b (fun k hk => by
            simp only [List.mem_cons, List.not_mem_nil, or_false] at hk
            omega) b hb
      · exact wh_b (fun k hk => Nat.lt_trans (o5 k hk) (by decide)) b hb
  | tell cs f es =>
    obtain ⟨o1, o2, o3, o4, o5⟩ := ok
    rcases List.mem_cons.mp hb with rfl | hb
    · omega
    · rcases List.mem_append.mp hb with hb | hb
      · rcases List.mem_append.mp hb with hb | hb
        · rcases List.mem_append.mp hb with hb | hb
          · exact fig_b (by omega) b hb
          · exact wh_b (fun k hk => Nat.lt_trans (o2 k hk) (by decide)) b hb
        · exact wh_b (fun k hk => by
            simp only [List.mem_cons, List.not_mem_nil, or_false] at hk
            omega) b hb
      · obtain ⟨e, he, hb⟩ := List.mem_flatMap.mp hb
        exact enR_b (o5 e he).ok b hb
theorem ltB_len2 {many m : Nat} {l : Lt} (ok : LtOk many l) (hm : many ≤ 1000) : (ltB m l).length ≤ 30000 := by
  have f0 : (figF 10 (m : Nat)).length ≤ 11 := figF_len
  cases l with
  | say n h d cs =>
    have f1 : (wh [n, h, d]).length ≤ 11 * 3 := wh_len
    have f2 := wh_len (ns := cs)
    have := ok.2.2.2.1
    unfold ltB
    rw [List.length_cons, List.length_append, List.length_append]
    omega
  | tell cs f es =>
    have f1 : (wh [f, es.length]).length ≤ 11 * 2 := wh_len
    have f2 := wh_len (ns := cs)
    have f3 : (es.flatMap enR).length ≤ 150 * es.length := fmap_len fun e h => enR_len (ok.2.2.2.2 e h).ok
    have := ok.1
    have := ok.2.2.2.1
    unfold ltB
    rw [List.length_cons, List.length_append, List.length_append, List.length_append]
    omega
theorem ltB_ok {many m : Nat} {l : Lt} (hmy : many ≤ 1000) (hm : m < 4294967296) (ok : LtOk many l) : RowOk (ltB m l) := ⟨by have := ltB_len2 (m := m) ok hmy; omega, ltB_b hmy hm ok⟩
theorem ltR_ok {many m : Nat} {l : Lt} (hmy : many ≤ 1000) (hm : m < 4294967296) (ok : LtOk many l) : RowOk (ltR m l) := ⟨by
  have := ltB_len2 (m := m) ok hmy
  unfold ltR
  rw [slF_len]
  omega, fun b hb => by
  rcases List.mem_append.mp hb with hb | hb
  · exact ltB_b hmy hm ok b hb
  · exact sealF_byte b hb⟩
theorem fineL_map {α : Type} {f : α → Dt} : ∀ {xs : List α}, (∀ a ∈ xs, fineD (f a) = true) → fineD.fineL (xs.map f) = true
  | [], _ => rfl
  | x :: xs, h => by
    show (fineD (f x) && fineD.fineL (xs.map f)) = true
    rw [h x List.mem_cons_self, fineL_map fun a ha => h a (List.mem_cons_of_mem _ ha)]
    rfl
theorem fineT_map {α : Type} {f : α → Dt} {xs : List α} (hl : xs.length ≤ 100000) (h : ∀ a ∈ xs, fineD (f a) = true) : fineD (.tup (xs.map f)) = true := by
  show (decide ((xs.map f).length ≤ 100000) && fineD.fineL (xs.map f)) = true
  rw [List.length_map, decide_eq_true hl, fineL_map h]
  rfl
theorem depT_map {α : Type} {f : α → Dt} {xs : List α} {k : Nat} (h : ∀ a ∈ xs, dep (f a) ≤ k) : dep (.tup (xs.map f)) ≤ k + 1 := by
  have : dep.depL (xs.map f) ≤ k := depL_le fun w hw => by
    obtain ⟨i, hi, rfl⟩ := List.mem_map.mp hw
    exact h i hi
  show 1 + dep.depL (xs.map f) ≤ k + 1
  omega
theorem fine_row {bs : List Int} (h : bs.length ≤ 100000) : fineD (.tup (bs.map Dt.int)) = true ∧ dep (.tup (bs.map Dt.int)) < 6 :=
  ⟨fineT_map h fun _ _ => rfl, Nat.lt_of_le_of_lt (depT_map (k := 0) fun _ _ => Nat.le_refl _) (by decide)⟩
theorem fine_en {e : En} (ok : EnOk e) : fineD (enD e) = true ∧ dep (enD e) ≤ 3 := by
  cases e with
  | ord ps =>
    obtain ⟨o1, o2, o3⟩ := ok
    constructor
    · show (decide (2 ≤ 100000) && (true && (fineD (.tup (ps.map prD)) && true))) = true
      rw [fineT_map (by omega) fun p _ => rfl]
      rfl
    · have h : dep (.tup (ps.map prD)) ≤ 2 := depT_map fun p _ => Nat.le_of_ble_eq_true rfl
      show 1 + max 0 (max (dep (.tup (ps.map prD))) 0) ≤ 3
      omega
  | out n => exact ⟨rfl, Nat.le_of_ble_eq_true rfl⟩
  | inn n => exact ⟨rfl, Nat.le_of_ble_eq_true rfl⟩
theorem fine_lt {many : Nat} {l : Lt} (hmy : many ≤ 1000) (ok : LtOk many l) : fineD (ltD l) = true ∧ dep (ltD l) < 6 := by
  have hc : ∀ {cs : List Nat}, cs.length = many → fineD (.tup (lotW cs)) = true ∧ dep (.tup (lotW cs)) ≤ 1 := fun h =>
    ⟨fineT_map (by omega) fun _ _ => rfl, depT_map (k := 0) fun _ _ => Nat.le_refl _⟩
  cases l with
  | say n h d cs =>
    obtain ⟨o1, o2, o3, o4, o5, o6⟩ := ok
    have h := hc o4
    constructor
    · show (decide (5 ≤ 100000) && (true && (true && (true && (true && (fineD (.tup (lotW cs)) && true)))))) = true
      rw [h.1]
      rfl
    · show 1 + max 0 (max 0 (max 0 (max 0 (max (dep (.tup (lotW cs))) 0)))) < 6
      have := h.2
      omega
  | tell cs f es =>
    obtain ⟨o1, o2, o3, o4, o5⟩ := ok
    have h := hc o1
    have h1 : fineD (.tup (es.map enD)) = true := fineT_map (by omega) fun e he => (fine_en (o5 e he).ok).1
    have h2 : dep (.tup (es.map enD)) ≤ 4 := depT_map fun e he => (fine_en (o5 e he).ok).2
    constructor
    · show (decide (4 ≤ 100000) && (true && (fineD (.tup (lotW cs)) && (true && (fineD (.tup (es.map enD)) && true))))) = true
      rw [h.1, h1]
      rfl
    · show 1 + max 0 (max (dep (.tup (lotW cs))) (max 0 (max (dep (.tup (es.map enD))) 0))) < 6
      have := h.2
      omega
theorem ints_inj {a b : List Int} (h : Dt.tup (a.map Dt.int) = .tup (b.map Dt.int)) : b = a := by
  injection h with h
  exact (map_inj (fun x y e => by injection e) h).symm
theorem nmsR_cons {bs : List Int} {m p k : Nat} {ns : List Nat} : nmsR bs (m + 1) p = .ok (ns, k) ↔ ∃ n c xs, numAt bs p = some (n, c) ∧ ns = n.toNat :: xs ∧ nmsR bs m (p + c) = .ok (xs, k) := by
  rw [nmsR]
  constructor
  · intro h
    split at h
    · cases h
    · rename_i n c e
      split at h
      · cases h
      · rename_i us j e2
        cases h
        exact ⟨n, c, us, e, rfl, e2⟩
  · rintro ⟨n, c, xs, e, rfl, e2⟩
    rw [e]
    dsimp only
    rw [e2]
theorem tsay_iff {bs : List Int} {many p j : Nat} {l : Lt} : tsayR bs many p = .ok (l, j) ↔ ∃ a b d cs, l = .say a b d cs ∧ nmsR bs (many + 3) p = .ok (a :: b :: d :: cs, j) := by
  constructor
  · intro h
    unfold tsayR at h
    split at h
    · cases h
    · rename_i a c1 e1
      split at h
      · cases h
      · rename_i b c2 e2
        split at h
        · cases h
        · rename_i d c3 e3
          split at h
          · cases h
          · rename_i cs q e4
            cases h
            exact ⟨_, _, _, _, rfl, nmsR_cons.mpr ⟨_, _, _, e1, rfl, nmsR_cons.mpr ⟨_, _, _, e2, rfl, nmsR_cons.mpr ⟨_, _, _, e3, rfl, e4⟩⟩⟩⟩
  · rintro ⟨a, b, d, cs, rfl, h⟩
    obtain ⟨n1, c1, x1, e1, h1, h⟩ := nmsR_cons.mp h
    injection h1 with ha h1
    subst ha h1
    obtain ⟨n2, c2, x2, e2, h1, h⟩ := nmsR_cons.mp h
    injection h1 with ha h1
    subst ha h1
    obtain ⟨n3, c3, x3, e3, h1, h⟩ := nmsR_cons.mp h
    injection h1 with ha h1
    subst ha h1
    unfold tsayR
    rw [e1]
    dsimp only
    rw [e2]
    dsimp only
    rw [e3]
    dsimp only
    rw [h]
theorem isLt_iff {many : Nat} {l : Lt} : isLt many (ltD l) = true ↔ LtOk many l := by
  constructor
  · intro h
    obtain ⟨l', e, ok⟩ := isLt_of h
    rw [lt_inj e]
    exact ok
  · exact isLt_ok
/-- what is told of a letter that is read whole -/
def endB (many : Nat) (bs : List Int) : Except Nat (Lt × Nat) → Option Lt
  | .ok (l, j) => if j = bs.length then (if isLt many (ltD l) = true then some l else none) else none
  | .error _ => none
theorem endB_iff {many : Nat} {bs : List Int} {x : Except Nat (Lt × Nat)} {l : Lt} : endB many bs x = some l ↔ x = .ok (l, bs.length) ∧ LtOk many l := by
  cases x with
  | error e => exact ⟨(fun h => nomatch h), (fun h => nomatch h.1)⟩
  | ok v =>
    obtain ⟨l', j⟩ := v
    unfold endB
    dsimp only
    constructor
    · intro h
      split at h
      · rename_i hj
        split at h
        · rename_i hl
          cases h
          exact ⟨by rw [hj], isLt_iff.mp hl⟩
        · cases h
      · cases h
    · rintro ⟨e, ok⟩
      cases e
      rw [if_pos rfl, if_pos (isLt_ok ok)]
theorem say_same {bs : List Int} (hb : ∀ b ∈ bs, 0 ≤ b ∧ b ≤ 255) {many p : Nat} (hmy : many ≤ 1000) : endB many bs (tsayR bs many p) = sayB bs many p := by
  apply Option.ext
  intro l
  rw [endB_iff, tsay_iff]
  unfold sayB
  constructor
  · rintro ⟨⟨a, b, d, cs, rfl, h⟩, o1, o2, o3, o4, o5, o6⟩
    have h := (nmsB_iff hb).mpr ⟨h, fun n hn => by
      simp only [List.mem_cons] at hn
      rcases hn with rfl | rfl | rfl | hn
      · omega
      · exact o2
      · exact o3
      · exact o5 n hn⟩
    rw [h]
    dsimp only
    rw [if_pos ⟨rfl, o1, o6⟩]
  · intro h
    cases e : nmsB bs (many + 3) p with
    | none => rw [e] at h; cases h
    | some v =>
      obtain ⟨ns, q⟩ := v
      obtain ⟨h1, h2⟩ := (nmsB_iff hb).mp e
      have h3 := (nmsB_len e).1
      rw [e] at h
      obtain ⟨a, b, d, cs, rfl⟩ : ∃ a b d cs, ns = a :: b :: d :: cs := by
        match ns, h3 with
        | a :: b :: d :: cs, _ => exact ⟨a, b, d, cs, rfl⟩
      dsimp only at h
      split at h
      · rename_i hc
        obtain ⟨rfl, c2, c3⟩ := hc
        cases h
        simp only [List.length_cons] at h3
        exact ⟨⟨_, _, _, _, rfl, h1⟩, c2, h2 _ (by simp), h2 _ (by simp), by omega, fun c hc => h2 c (by simp [hc]), c3⟩
      · cases h
theorem nmsR_add {bs : List Int} {m n : Nat} : ∀ {p k : Nat} {ns : List Nat}, nmsR bs (m + n) p = .ok (ns, k) ↔ ∃ xs ys j, ns = xs ++ ys ∧ nmsR bs m p = .ok (xs, j) ∧ nmsR bs n j = .ok (ys, k) := by
  induction m with
  | zero =>
    intro p k ns
    rw [Nat.zero_add]
    constructor
    · intro h
      exact ⟨[], ns, p, rfl, rfl, h⟩
    · rintro ⟨xs, ys, j, rfl, h1, h2⟩
      cases h1
      exact h2
  | succ m ih =>
    intro p k ns
    rw [show m + 1 + n = (m + n) + 1 by omega, nmsR_cons]
    constructor
    · rintro ⟨v, c, us, e, rfl, h⟩
      obtain ⟨xs, ys, j, rfl, h1, h2⟩ := ih.mp h
      exact ⟨v.toNat :: xs, ys, j, rfl, nmsR_cons.mpr ⟨v, c, xs, e, rfl, h1⟩, h2⟩
    · rintro ⟨xs, ys, j, rfl, h1, h2⟩
      obtain ⟨v, c, us, e, rfl, h⟩ := nmsR_cons.mp h1
      exact ⟨v, c, us ++ ys, e, rfl, ih.mpr ⟨us, ys, j, rfl, h, h2⟩⟩
theorem nmsR_len {bs : List Int} : ∀ {m p k : Nat} {ns : List Nat}, nmsR bs m p = .ok (ns, k) → ns.length = m
  | 0, p, k, ns, h => by
    cases h
    rfl
  | m + 1, p, k, ns, h => by
    obtain ⟨v, c, xs, e, rfl, h2⟩ := nmsR_cons.mp h
    have := nmsR_len h2
    rw [List.length_cons, this]
theorem ttel_iff {bs : List Int} {many p j : Nat} {l : Lt} : ttelR bs many p = .ok (l, j) ↔ ∃ cs f n k es, l = .tell cs f es ∧ nmsR bs (many + 2) p = .ok (cs ++ [f, n], k) ∧ cs.length = many ∧ entsR bs n k = .ok (es, j) := by
  constructor
  · intro h
    unfold ttelR at h
    split at h
    · cases h
    · rename_i cs k e0
      split at h
      · cases h
      · rename_i f c1 e1
        split at h
        · cases h
        · rename_i n c2 e2
          split at h
          · cases h
          · rename_i es q e3
            cases h
            exact ⟨cs, f.toNat, n.toNat, _, es, rfl, nmsR_add.mpr ⟨cs, _, k, rfl, e0, nmsR_cons.mpr ⟨f, c1, _, e1, rfl, nmsR_cons.mpr ⟨n, c2, _, e2, rfl, rfl⟩⟩⟩, nmsR_len e0, e3⟩
  · rintro ⟨cs, f, n, k, es, rfl, h, hl, he⟩
    obtain ⟨xs, ys, q, e, h1, h2⟩ := nmsR_add.mp h
    obtain ⟨rfl, rfl⟩ := List.append_inj e (by rw [hl, nmsR_len h1])
    obtain ⟨n1, c1, x1, e1, h3, h2⟩ := nmsR_cons.mp h2
    injection h3 with ha h3
    subst ha h3
    obtain ⟨n2, c2, x2, e2, h3, h2⟩ := nmsR_cons.mp h2
    injection h3 with ha h3
    subst ha h3
    cases h2
    unfold ttelR
    rw [h1]
    dsimp only
    rw [e1]
    dsimp only
    rw [e2]
    dsimp only
    rw [he]
theorem smR_iff {bs : List Int} {p n q : Nat} {most : Int} : smR bs p most = .ok (n, q) ↔ ∃ v c, numAt bs p = some (v, c) ∧ v ≤ most ∧ n = v.toNat ∧ q = p + c := by
  unfold smR
  cases e : numAt bs p with
  | none => exact ⟨(fun h => nomatch h), (fun ⟨_, _, h, _⟩ => nomatch h)⟩
  | some x =>
    obtain ⟨v, c⟩ := x
    dsimp only
    constructor
    · intro h
      split at h
      · cases h
      · cases h
        exact ⟨v, c, rfl, by omega, rfl, rfl⟩
    · rintro ⟨v', c', e2, h1, rfl, rfl⟩
      cases e2
      rw [if_neg (by omega)]
theorem entsR_len {bs : List Int} : ∀ {m p k : Nat} {ns : List En}, entsR bs m p = .ok (ns, k) → ns.length = m
  | 0, p, k, ns, h => by
    cases h
    rfl
  | m + 1, p, k, ns, h => by
    rw [entsR] at h
    split at h
    · cases h
    · split at h
      · cases h
      · rename_i e2
        cases h
        rw [List.length_cons, entsR_len e2]
theorem prs_iff {bs : List Int} : ∀ {m p k : Nat} {zs : List (Nat × Nat)}, prsR bs m p = .ok (zs, k) ↔ ∃ ns, nmsR bs (2 * m) p = .ok (ns, k) ∧ zs = prs ns ∧ ∀ n ∈ ns, n < 4294967296
  | 0, p, k, zs => by
    constructor
    · intro h
      cases h
      exact ⟨[], rfl, rfl, (fun n h => nomatch h)⟩
    · rintro ⟨ns, h, rfl, _⟩
      cases h
      rfl
  | m + 1, p, k, zs => by
    rw [show 2 * (m + 1) = (2 * m + 1) + 1 by omega, prsR]
    constructor
    · intro h
      split at h
      · cases h
      · rename_i z q e
        split at h
        · cases h
        · rename_i us j e2
          cases h
          obtain ⟨ns, h1, rfl, h3⟩ := prs_iff.mp e2
          unfold prR at e
          split at e
          · cases e
          · rename_i a q1 e3
            split at e
            · cases e
            · rename_i b q2 e4
              cases e
              obtain ⟨v, c, n1, n2, rfl, rfl⟩ := smR_iff.mp e3
              obtain ⟨v2, c2, n3, n4, rfl, rfl⟩ := smR_iff.mp e4
              refine ⟨v.toNat :: v2.toNat :: ns, nmsR_cons.mpr ⟨v, c, _, n1, rfl, nmsR_cons.mpr ⟨v2, c2, _, n3, rfl, h1⟩⟩, rfl, fun n hn => ?_⟩
              simp only [List.mem_cons] at hn
              rcases hn with rfl | rfl | hn
              · omega
              · omega
              · exact h3 n hn
    · rintro ⟨ns, h, rfl, h3⟩
      obtain ⟨v, c, x1, e1, rfl, hA⟩ := nmsR_cons.mp h
      obtain ⟨v2, c2, x2, e2, rfl, hB⟩ := nmsR_cons.mp hA
      have b1 := h3 v.toNat (by simp)
      have b2 := h3 v2.toNat (by simp)
      have g1 : smR bs p 4294967295 = .ok (v.toNat, p + c) := smR_iff.mpr ⟨v, c, e1, by omega, rfl, rfl⟩
      have g2 : smR bs (p + c) 4294967295 = .ok (v2.toNat, p + c + c2) := smR_iff.mpr ⟨v2, c2, e2, by omega, rfl, rfl⟩
      have g3 : prsR bs m (p + c + c2) = .ok (prs x2, k) := prs_iff.mpr ⟨x2, hB, rfl, fun n hn => h3 n (by simp [hn])⟩
      have g4 : prR bs p = .ok ((v.toNat, v2.toNat), p + c + c2) := by
        unfold prR
        rw [g1]
        dsimp only
        rw [g2]
      rw [g4]
      dsimp only
      rw [g3]
      rfl
theorem prs_len : ∀ {m : Nat} {ns : List Nat}, ns.length = 2 * m → (prs ns).length = m := fun h => by rw [← prs_range h, List.length_map, List.length_range]
theorem prs_in : ∀ {ns : List Nat}, ∀ z ∈ prs ns, z.1 ∈ ns ∧ z.2 ∈ ns
  | a :: b :: r, z, h => by
    rw [prs] at h
    rcases List.mem_cons.mp h with rfl | h
    · exact ⟨by simp, by simp⟩
    · have := prs_in z h
      exact ⟨by simp [this.1], by simp [this.2]⟩
  | [], z, h => nomatch h
  | [a], z, h => nomatch h
theorem prs_of : ∀ {m : Nat} {ns : List Nat}, ns.length = 2 * m → ∀ n ∈ ns, ∃ z ∈ prs ns, n = z.1 ∨ n = z.2
  | m + 1, a :: b :: r, h, n, hn => by
    have h : r.length = 2 * m := by
      simp only [List.length_cons] at h
      omega
    rw [prs]
    simp only [List.mem_cons] at hn
    rcases hn with rfl | rfl | hn
    · exact ⟨_, List.mem_cons_self, .inl rfl⟩
    · exact ⟨_, List.mem_cons_self, .inr rfl⟩
    · obtain ⟨z, hz, e⟩ := prs_of h n hn
      exact ⟨z, List.mem_cons_of_mem _ hz, e⟩
  | _, [], h, n, hn => nomatch hn
  | 0, a :: r, h, n, hn => by simp at h
  | m + 1, [a], h, n, hn => by
    simp only [List.length_cons, List.length_nil] at h
    omega
theorem ent_iff {bs : List Int} (hb : ∀ b ∈ bs, 0 ≤ b ∧ b ≤ 255) {p q : Nat} {e : En} : entB bs p = some (e, q) ↔ entR bs p = .ok (e, q) ∧ EnSm e := by
  unfold entB entR
  cases e0 : bs[p]? with
  | none => exact ⟨(fun h => nomatch h), (fun h => nomatch h.1)⟩
  | some w =>
    dsimp only
    constructor
    · intro h
      split at h
      · rename_i hw
        split at h
        · cases h
        · rename_i n c e1
          have hn := numAt_in hb e1
          split at h
          · rename_i hs
            split at h
            · rename_i h1
              split at h
              · rename_i h2
                split at h
                · cases h
                · rename_i ns k e2
                  cases h
                  obtain ⟨f1, f2⟩ := (nmsB_iff hb).mp e2
                  have f3 := (nmsB_len e2).1
                  rw [if_pos h1, smR_iff.mpr ⟨n, c, e1, h2.2, rfl, rfl⟩]
                  dsimp only
                  rw [if_neg (by omega), prs_iff.mpr ⟨ns, f1, rfl, fun n hn => Nat.lt_trans (f2 n hn) (by decide)⟩]
                  refine ⟨rfl, by rw [prs_len f3]; omega, by rw [prs_len f3]; omega, fun z hz => ?_⟩
                  have := prs_in z hz
                  exact ⟨f2 _ this.1, f2 _ this.2⟩
              · cases h
            · rename_i h1
              cases h
              rw [if_neg h1]
              by_cases h2 : w = 2
              · rw [if_pos h2, if_pos h2, smR_iff.mpr ⟨n, c, e1, by omega, rfl, rfl⟩]
                exact ⟨rfl, show n.toNat < 100000 by omega⟩
              · rw [if_neg h2, if_neg h2, if_pos (show w = 3 by omega), smR_iff.mpr ⟨n, c, e1, by omega, rfl, rfl⟩]
                exact ⟨rfl, show n.toNat < 100000 by omega⟩
          · cases h
      · cases h
    · rintro ⟨h, ok⟩
      split at h
      · rename_i h1
        split at h
        · cases h
        · rename_i n j e1
          obtain ⟨v, c, e2, v1, rfl, rfl⟩ := smR_iff.mp e1
          have hn := numAt_in hb e2
          split at h
          · cases h
          · rename_i h2
            split at h
            · cases h
            · rename_i zs k e3
              cases h
              obtain ⟨ns, f1, rfl, f3⟩ := prs_iff.mp e3
              have f4 := nmsR_len f1
              have f5 : nmsB bs (2 * v.toNat) (p + 1 + c) = some (ns, q) := (nmsB_iff hb).mpr ⟨f1, fun n hn => by
                obtain ⟨z, hz, e⟩ := prs_of f4 n hn
                have := ok.2.2 z hz
                omega⟩
              rw [if_pos (.inl h1), e2]
              dsimp only
              rw [if_pos (by omega), if_pos h1, if_pos (by omega), f5]
      · rename_i h1
        split at h
        · rename_i h2
          split at h
          · cases h
          · rename_i n j e1
            cases h
            obtain ⟨v, c, e2, v1, rfl, rfl⟩ := smR_iff.mp e1
            have hn := numAt_in hb e2
            have ok : v.toNat < 100000 := ok
            rw [if_pos (.inr (.inl h2)), e2]
            dsimp only
            rw [if_pos (by omega), if_neg h1, if_pos h2]
        · rename_i h2
          split at h
          · rename_i h3
            split at h
            · cases h
            · rename_i n j e1
              cases h
              obtain ⟨v, c, e2, v1, rfl, rfl⟩ := smR_iff.mp e1
              have hn := numAt_in hb e2
              have ok : v.toNat < 100000 := ok
              rw [if_pos (.inr (.inr h3)), e2]
              dsimp only
              rw [if_pos (by omega), if_neg h1, if_neg h2]
          · cases h
theorem ents_iff {bs : List Int} (hb : ∀ b ∈ bs, 0 ≤ b ∧ b ≤ 255) : ∀ {m p q : Nat} {es : List En}, entsB bs m p = some (es, q) ↔ entsR bs m p = .ok (es, q) ∧ ∀ e ∈ es, EnSm e
  | 0, p, q, es => by
    unfold entsB entsR
    constructor
    · intro h
      cases h
      exact ⟨rfl, (fun n h => nomatch h)⟩
    · rintro ⟨h, _⟩
      cases h
      rfl
  | m + 1, p, q, es => by
    rw [entsB, entsR]
    constructor
    · intro h
      split at h
      · cases h
      · rename_i e k e1
        split at h
        · cases h
        · rename_i us j e2
          cases h
          obtain ⟨f1, f2⟩ := (ent_iff hb).mp e1
          obtain ⟨f3, f4⟩ := (ents_iff hb).mp e2
          rw [f1]
          dsimp only
          rw [f3]
          refine ⟨rfl, fun e he => ?_⟩
          rcases List.mem_cons.mp he with rfl | he
          · exact f2
          · exact f4 e he
    · rintro ⟨h, ok⟩
      split at h
      · cases h
      · rename_i e k e1
        split at h
        · cases h
        · rename_i us j e2
          cases h
          rw [(ent_iff hb).mpr ⟨e1, ok e List.mem_cons_self⟩]
          dsimp only
          rw [(ents_iff hb).mpr ⟨e2, fun x hx => ok x (List.mem_cons_of_mem _ hx)⟩]
theorem tell_same {bs : List Int} (hb : ∀ b ∈ bs, 0 ≤ b ∧ b ≤ 255) {many p : Nat} (hmy : many ≤ 1000) : endB many bs (ttelR bs many p) = tellB bs many p := by
  apply Option.ext
  intro l
  rw [endB_iff, ttel_iff]
  unfold tellB
  have gl : ∀ {cs : List Nat} {f n : Nat}, cs.length = many → (cs ++ [f, n]).getD many 0 = f ∧ (cs ++ [f, n]).getD (many + 1) 0 = n ∧ (cs ++ [f, n]).take many = cs := fun h => by
    subst h
    refine ⟨?_, ?_, List.take_left ..⟩
    · rw [List.getD_eq_getElem?_getD, List.getElem?_append_right (Nat.le_refl _), Nat.sub_self]
      rfl
    · rw [List.getD_eq_getElem?_getD, List.getElem?_append_right (Nat.le_succ _)]
      rename_i cs f n
      rw [show cs.length.succ - cs.length = 1 by omega]
      rfl
  constructor
  · rintro ⟨⟨cs, f, n, k, es, rfl, h, hl, he⟩, o1, o2, o3, o4, o5⟩
    have hel : es.length = n := (entsR_len he)
    have h := (nmsB_iff hb).mpr ⟨h, fun x hx => by
      simp only [List.mem_append, List.mem_cons, List.not_mem_nil, or_false] at hx
      rcases hx with hx | rfl | rfl
      · exact o2 x hx
      · exact o3
      · omega⟩
    rw [h]
    dsimp only
    rw [(gl hl).1, (gl hl).2.1, (gl hl).2.2, if_pos (by omega), (ents_iff hb).mpr ⟨he, o5⟩]
    dsimp only
    rw [if_pos rfl]
  · intro h
    cases e : nmsB bs (many + 2) p with
    | none => rw [e] at h; cases h
    | some v =>
      obtain ⟨ns, q⟩ := v
      obtain ⟨h1, h2⟩ := (nmsB_iff hb).mp e
      have h3 := (nmsB_len e).1
      rw [e] at h
      obtain ⟨cs, f, n, rfl, hl⟩ : ∃ cs f n, ns = cs ++ [f, n] ∧ cs.length = many := by
        refine ⟨ns.take many, ns.getD many 0, ns.getD (many + 1) 0, ?_, by rw [List.length_take]; omega⟩
        have e1 : ns.drop many = [ns.getD many 0, ns.getD (many + 1) 0] := by
          have e3 : ns.drop (many + 2) = [] := List.drop_eq_nil_of_le (by omega)
          rw [List.drop_eq_getElem_cons (by omega), List.drop_eq_getElem_cons (by omega), e3, List.getD_eq_getElem?_getD, List.getD_eq_getElem?_getD, List.getElem?_eq_getElem (by omega), List.getElem?_eq_getElem (by omega)]
          rfl
        rw [← e1, List.take_append_drop]
      dsimp only at h
      rw [(gl hl).1, (gl hl).2.1, (gl hl).2.2] at h
      split at h
      · rename_i hc
        split at h
        · cases h
        · rename_i es j e5
          split at h
          · rename_i hj
            subst hj
            cases h
            obtain ⟨f1, f2⟩ := (ents_iff hb).mp e5
            exact ⟨⟨cs, f, n, q, es, rfl, h1, hl, f1⟩, hl, fun c hc => h2 c (by simp [hc]), h2 f (by simp), by rw [entsR_len f1]; exact hc, f2⟩
          · cases h
      · cases h
theorem endM {many : Nat} {bs : List Int} (x : Except Nat (Lt × Nat)) : (match (match x with
    | .error e => (Except.error e : Except Nat (Option Lt))
    | .ok (l, j) => if j = bs.length then .ok (some l) else .error j) with
    | .ok (some l) => if isLt many (ltD l) = true then some l else none
    | _ => none) = endB many bs x := by
  cases x with
  | error e => rfl
  | ok v =>
    obtain ⟨l, j⟩ := v
    unfold endB
    dsimp only
    by_cases hj : j = bs.length
    · rw [if_pos hj, if_pos hj]
    · rw [if_neg hj, if_neg hj]
theorem own_same {bs : List Int} (hb : RowOk bs) {many m : Nat} (hmy : many ≤ 1000) : rdLt many m bs = ownB many m bs := by
  unfold rdLt ownB
  cases e0 : unslF bs with
  | none => rfl
  | some r =>
    have hr := unslF_ok hb e0
    have hl : r.length = bs.length - 4 := by
      unfold unslF at e0
      split at e0
      · cases e0
      · split at e0
        · cases e0
          rw [List.length_take]
          omega
        · cases e0
    dsimp only
    unfold tkLt
    by_cases h6 : bs.length < 6
    · rw [if_pos h6]
      have hd : r.drop 1 = [] := List.drop_eq_nil_of_le (by omega)
      have hn : numAt r 1 = none := by
        unfold numAt
        rw [hd, numG_nil]
      rw [hn]
      cases r[0]? <;> rfl
    · rw [if_neg h6]
      cases r[0]? with
      | none => rfl
      | some k =>
        dsimp only
        cases numAt r 1 with
        | none =>
          by_cases hk : k = 1 ∨ k = 2
          · rw [if_pos hk]
          · rw [if_neg hk]
        | some v =>
          obtain ⟨n, c⟩ := v
          dsimp only
          by_cases hnm : n = (m : Int)
          · rw [if_pos hnm, if_pos hnm]
            by_cases h1 : k = 1
            · rw [if_pos h1, if_pos h1, if_pos (.inl h1), ← say_same hr.2 hmy]
              exact endM _
            · rw [if_neg h1, if_neg h1]
              by_cases h2 : k = 2
              · rw [if_pos h2, if_pos (.inr h2), ← tell_same hr.2 hmy]
                exact endM _
              · rw [if_neg h2, if_neg (by omega)]
          · rw [if_neg hnm, if_neg hnm]
            by_cases hk : k = 1 ∨ k = 2
            · rw [if_pos hk]
            · rw [if_neg hk]
theorem own_fine {bs : List Int} (hb : RowOk bs) {many m : Nat} (hmy : many ≤ 1000) : fineD (optLt (ownB many m bs)) = true ∧ dep (optLt (ownB many m bs)) < 6 := by
  rw [← own_same hb hmy]
  unfold rdLt
  split
  · exact ⟨rfl, Nat.le_of_ble_eq_true rfl⟩
  · split
    · split
      · rename_i h
        exact fine_lt hmy (isLt_iff.mp h)
      · exact ⟨rfl, Nat.le_of_ble_eq_true rfl⟩
    · exact ⟨rfl, Nat.le_of_ble_eq_true rfl⟩
theorem ok_law {f : Addr} {fd : FuncData} (T : Txt P w K mg base c_BadFloor c_NoNumber c_BadRow c_NoRow c_Floor c_Reader) (F : L2.Fun K "law" "law" s_law f fd) (C_read_letter : Cal P w K mg base "read_letter" 11 ["floor", "match", "thing"] 3 (G_read_letter c_Floor c_NoNumber)) (C__law_deep : Cal P w K mg base "_law_deep" 2 ["_law_hand_here"] 1 G__law_deep) (C__law_draw : Cal P w K mg base "_law_draw" 1 ["_law_hand_here", "_law_many"] 2 G__law_draw) (C__law_is : Cal P w K mg base "_law_is" 7 ["_law_told", "_law_due"] 2 (G__law_is 6)) (C_unsealed : Cal P w K mg base "unsealed" 6 ["row"] 1 (G_unsealed c_NoRow)) (C__law_seal : Cal P w K mg base "_law_seal" 2 ["_law_row"] 1 G__law_seal) (C__law_read : Cal P w K mg base "_law_read" 5 ["_law_many", "_law_match_here", "_law_thing"] 3 G__law_read) (C__law_wide : Cal P w K mg base "_law_wide" 1 ["_law_number"] 1 G__law_wide) (C__law_bent_row : Cal P w K mg base "_law_bent_row" 3 ["_law_hand_here", "_law_row"] 2 G__law_bent_row) (C__law_letter_row : Cal P w K mg base "_law_letter_row" 3 ["_law_match_here", "_law_letter"] 2 G__law_letter_row) (C__law_some_letter : Cal P w K mg base "_law_some_letter" 2 ["_law_hand_here", "_law_floor_here"] 2 (G__law_some_letter c_Floor)) (C_homes : Cal P w K mg base "homes" 1 ["floor"] 1 (G_homes c_Floor)) (C__law_match : Cal P w K mg base "_law_match" 2 ["_law_hand_here"] 1 G__law_match) (C__law_floor : Cal P w K mg base "_law_floor" 5 ["_law_hand_here"] 1 (G__law_floor c_Floor)) (C__law_hand : Cal P w K mg base "_law_hand" 1 ["_law_script"] 1 G__law_hand) : FnOk P w K mg base (L2.CX P w) 12 f fd ["_law_script"] (spOf K 1 (lawG 63)) := by
  refine ok_w F sc_law (lawG 63) rfl fun cdv A outer s H E hr => ?_
  have hu := hr.units
  refine ⟨_, (jss_cons (js_set (je_cal C__law_hand (hr.mono (by omega)) takes_def (by rfl) (ja_cons (je_var (pv 0)) ja_nil)) (pg_name (i := 1) sc_law.nd rfl (by first | exact Or.inl rfl | exact Or.inr rfl))) (jss_cons (js_for passes_def rfl (ji_rng1 (by rfl) T.n_range (ja_cons je_int ja_nil)) (jg_name (pg_name (i := 2) sc_law.nd rfl (by first | exact Or.inl rfl | exact Or.inr rfl))) (jss_cons (js_par (i := 3) (j := 4) rfl sc_law.nd rfl rfl (by decide) rfl rfl (ja_cons (je_cal C__law_floor (hr.mono (by omega)) takes_def (by rfl) (ja_cons (je_var (pv 1)) ja_nil)) (ja_cons (je_cal C__law_match (hr.mono (by omega)) takes_def (by rfl) (ja_cons (je_var (pv 1)) ja_nil)) ja_nil))) (jss_cons (js_set (je_callB (c_len) (by rfl) T.n_len (by decide +kernel) (ja_cons (je_cal C_homes (hr.mono (by omega)) takes_def (by rfl) (ja_cons (je_var (pv 3)) ja_nil)) ja_nil)) (pg_name (i := 5) sc_law.nd rfl (by first | exact Or.inl rfl | exact Or.inr rfl))) (jss_cons (js_set (je_cal C__law_bent_row (hr.mono (by omega)) takes_def (by rfl) (ja_cons (je_var (pv 1)) (ja_cons (je_cal C__law_letter_row (hr.mono (by omega)) takes_def (by rfl) (ja_cons (je_var (pv 4)) (ja_cons (je_cal C__law_some_letter (hr.mono (by omega)) takes_def (by rfl) (ja_cons (je_var (pv 1)) (ja_cons (je_var (pv 3)) ja_nil))) ja_nil))) ja_nil))) (pg_name (i := 6) sc_law.nd rfl (by first | exact Or.inl rfl | exact Or.inr rfl))) (jss_cut (js_if (jt_cmp (o_eq hu) (je_cal C__law_draw (hr.mono (by omega)) takes_def (by rfl) (ja_cons (je_var (pv 1)) (ja_cons je_int ja_nil))) je_int (nomark _)) (jss_one (js_set (je_cal C__law_seal (hr.mono (by omega)) takes_def (by rfl) (ja_cons (je_op o_add (je_op o_add (je_frz (jl_lst (ja_cons (je_op o_add je_int (je_cal C__law_draw (hr.mono (by omega)) takes_def (by rfl) (ja_cons (je_var (pv 1)) (ja_cons je_int ja_nil)))) ja_nil))) (je_cal C__law_wide (hr.mono (by omega)) takes_def (by rfl) (ja_cons (je_var (pv 4)) ja_nil))) (je_frz (jl_comp (own := [("_law_byte", 9)]) rfl sc_law.nd (ji_rng1 (by rfl) T.n_range (ja_cons (je_cal C__law_draw (hr.mono (by omega)) takes_def (by rfl) (ja_cons (je_var (pv 1)) (ja_cons je_int ja_nil))) ja_nil)) (blkOk_by (N := N_law) (sc := defScope s_law) (by decide +kernel)) binds_name (fun _ _ _ _ _ => (pg_name (i := 9) sc_law.nd rfl (by first | exact Or.inl rfl | exact Or.inr rfl))) (fun _ _ _ _ _ => jts_nil) (fun _ _ _ _ _ => (je_cal C__law_draw (hr.mono (by omega)) takes0 (by rfl) (ja_cons (je_var (pv 1)) (ja_cons je_int ja_nil))))))) ja_nil)) (pg_name (i := 6) sc_law.nd rfl (by first | exact Or.inl rfl | exact Or.inr rfl)))) jss_nil) (jss_cons (js_if (jt_not (jt_val (je_cal C__law_is (hr.mono (by omega)) takes_def (by rfl) (ja_cons (je_cal C_read_letter (hr.mono (by omega)) takes_def (by rfl) (ja_cons (je_var (pv 3)) (ja_cons (je_var (pv 4)) (ja_cons (je_var (pv 6)) ja_nil)))) (ja_cons (je_cal C__law_read (hr.mono (by omega)) takes_def (by rfl) (ja_cons (je_var (pv 5)) (ja_cons (je_var (pv 4)) (ja_cons (je_var (pv 6)) ja_nil)))) ja_nil))))) (jss_one (js_ret je_bl)) jss_nil) (jss_cut (js_set (je_and (je_cmp o_gt (je_callB (c_len) (by rfl) T.n_len (by decide +kernel) (ja_cons (je_var (pv 6)) ja_nil)) je_int (nomark _)) (je_one (je_cmp (o_eq hu) (je_cal C__law_seal (hr.mono (by omega)) takes_def (by rfl) (ja_cons (je_slice o_slice (je_var (pv 6)) jo_none (jo_some (je_un o_neg je_int))) ja_nil)) (je_var (pv 6)) (nomark _)))) (pg_name (i := 7) sc_law.nd rfl (by first | exact Or.inl rfl | exact Or.inr rfl))) (jss_cut (js_if (jt_not (jt_val (je_cal C__law_is (hr.mono (by omega)) takes_def (by rfl) (ja_cons (je_cal C_unsealed (hr.mono (by omega)) takes_def (by rfl) (ja_cons (je_var (pv 6)) ja_nil)) (ja_cons (je_if (jt_val (je_var (pv 7))) (je_slice o_slice (je_var (pv 6)) jo_none (jo_some (je_un o_neg je_int))) je_non) ja_nil))))) (jss_one (js_ret je_bl)) jss_nil) (jss_cons (js_set (je_ix o_ix (je_frz (jl_lst (ja_cons je_non (ja_cons je_int (ja_cons (je_frz (jl_callT c_list (by rfl) T.n_list (by decide +kernel) (ja_cons (je_var (pv 6)) ja_nil))) (ja_cons je_str (ja_cons (je_tup (ja_cons je_int ja_nil)) (ja_cons je_dict0 (ja_cons (je_tup (ja_cons je_bl (ja_cons je_int (ja_cons je_int (ja_cons je_int (ja_cons je_int (ja_cons je_int ja_nil))))))) (ja_cons (je_cal C__law_deep (hr.mono (by omega)) takes_def (by rfl) (ja_cons (je_var (pv 1)) ja_nil)) ja_nil)))))))))) (je_cal C__law_draw (hr.mono (by omega)) takes_def (by rfl) (ja_cons (je_var (pv 1)) (ja_cons je_int ja_nil))) (fun _ _ => rfl)) (pg_name (i := 8) sc_law.nd rfl (by first | exact Or.inl rfl | exact Or.inr rfl))) (jss_one (js_if (jt_cmp o_isnot (je_cal C_read_letter (hr.mono (by omega)) takes_def (by rfl) (ja_cons (je_var (pv 3)) (ja_cons (je_var (pv 4)) (ja_cons (je_var (pv 8)) ja_nil)))) je_non (nomark _)) (jss_one (js_ret je_bl)) jss_nil))))))))))) (jss_one (js_ret je_bl)))), fun ws S Q Ex hl g => ?_⟩
  obtain ⟨ns, rfl, hns, rfl, g⟩ := g
  walk_at "go"
  refine ⟨ns, rfl, hns, fun h hd hh0 hh => ?_⟩
  walk_at "go"
  refine forW_rule (fun i σ S' => ∃ (hd : List Dt) (y : List (Option Dt)), σ = some (.kl (ns.map Dt.int)) :: some (.ref h) :: y ∧ y.length = 8 ∧ S' h = some (.lst hd) ∧ HandL hd) ⟨hd, _, rfl, rfl, sup_same, hh⟩ ?_ ?_
  · clear hh
    rintro i v σ S N ew ⟨hd, y, rfl, hy, hSh, hh⟩ hN
    obtain ⟨y3, y4, y5, y6, y7, y8, y9, y10, rfl⟩ : ∃ y3 y4 y5 y6 y7 y8 y9 y10, y = [y3, y4, y5, y6, y7, y8, y9, y10] := by
      match y, hy with
      | [a, b, c, d, e, f, g, h], _ => exact ⟨a, b, c, d, e, f, g, h, rfl⟩
    refine ⟨trivial, ?_⟩
    walk_at "go"
    refine ⟨h, hd, rfl, hSh, hh, fun R hd hR hh => ?_⟩
    walk_at "go"
    refine ⟨h, hd, rfl, sup_same, hh, fun m hd hm hh => ?_⟩
    rw [sup_sup]
    walk_at "go"
    refine ⟨R, rfl, ?_⟩
    have lm : (lotW (ofF R 72)).length = (ofF R 72).length := List.length_map ..
    have hmy := ofF_len hR 72
    have hmy : (ofF R 72).length ≤ 1000 := by omega
    walk_at "go"
    refine ⟨h, R, hd, rfl, sup_same, hh, hR, fun l S2 hd ok hh hS2 keep => ?_⟩
    clear keep hSh
    walk_at "go"
    refine ⟨_, m, l, rfl, hm, hmy, ok, ?_⟩
    have hl2 := ltB_len2 (m := m) ok hmy
    have hl3 : (ltR m l).length = (ltB m l).length + 4 := slF_len _
    have rok := ltR_ok hmy hm ok
    walk_at "go"
    refine ⟨h, hd, _, rfl, hS2, hh, by omega, rok.2, fun cs hd cl cb hh => ?_⟩
    walk_at "go"
    refine ⟨fun σ S' => ∃ (cs : List Int) (hd : List Dt) (y9 y10 y11 : Option Dt), σ = [some (.kl (ns.map Dt.int)), some (.ref h), some v, some (floorD c_Floor R), some (.int (m : Nat)), some (.int ((ofF R 72).length : Nat)), some (.tup (cs.map Dt.int)), y9, y10, y11] ∧ S' h = some (.lst hd) ∧ HandL hd ∧ cs.length ≤ 60000 ∧ ∀ b ∈ cs, 0 ≤ b ∧ b ≤ 255, ?_, ?_⟩
    · walk_at "go"
      refine ⟨h, 4, hd, rfl, sup_same, hh, by decide, log_small (by decide), fun k hd k0 k1 hh => ?_⟩
      rw [sup_sup]
      walk_at "go"
      by_cases hk : k = 0
      · rw [decide_eq_true hk]
        walk_at "go"
        refine ⟨h, 2, hd, rfl, sup_same, hh, by decide, log_small (by decide), fun k2 hd k20 k21 hh => ?_⟩
        rw [sup_sup]
        walk_at "go"
        refine ⟨m, rfl, by omega, ?_⟩
        have f0 := fl11 (m : Nat)
        walk_at "go"
        refine ⟨by rw [List.length_map]; show 1 + _ ≤ 16777216; omega, ?_⟩
        walk_at "go"
        refine ⟨h, 9, hd, rfl, sup_same, hh, by decide, log_small (by decide), fun k3 hd k30 k31 hh => ?_⟩
        rw [sup_sup]
        walk_at "go"
        rw [rangeW_0]
        refine comp_inv (fun i : Nat => .int (i : Nat)) (fun j acc S1 => ∃ (ds : List Int) (hd : List Dt), acc = ds.map Dt.int ∧ S1 = sup S2 h (.lst hd) ∧ HandL hd ∧ ds.length = j ∧ ∀ c ∈ ds, 0 ≤ c ∧ c ≤ 255) (List.range k3.toNat) 0 [] _ (fun j c hj hc acc S1 jj => ?_) ⟨[], hd, rfl, rfl, hh, rfl, fun b hb => nomatch hb⟩ (fun acc S1 jj => ?_)
        · obtain ⟨ds, hd, rfl, rfl, hh, hdl, hdb⟩ := jj
          rw [List.length_range] at hj
          refine ⟨trivial, _, rfl, fun N hN => ?_⟩
          walk_at "go"
          refine ⟨h, 3, hd, rfl, sup_same, hh, by decide, log_small (by decide), fun a hd a0 a1 hh => ?_⟩
          rw [sup_sup]
          walk_at "go"
          refine ⟨by rw [List.length_map]; show _ < 16777216; omega, hN _ _ ⟨ds ++ [a], hd, by rw [List.map_append]; rfl, rfl, hh, by rw [List.length_append, hdl]; rfl, fun q hq' => ?_⟩⟩
          rcases List.mem_append.mp hq' with hq' | hq'
          · exact hdb q hq'
          · rw [List.mem_singleton.mp hq']
            omega
        · obtain ⟨ds, hd, rfl, rfl, hh, hdl, hdb⟩ := jj
          rw [List.length_range, Nat.zero_add] at hdl
          refine ⟨trivial, ?_⟩
          walk_at "go"
          refine ⟨by
            rw [List.length_append, List.length_map, List.length_map]
            show 1 + _ + _ ≤ 16777216
            omega, ?_⟩
          walk_at "go"
          refine ⟨(1 + k2) :: (figF 10 (m : Nat) ++ ds), .inl (by rw [List.map_cons, List.map_append]; rfl), by rw [List.length_cons, List.length_append]; omega, ?_⟩
          walk_at "go"
          refine ⟨slF ((1 + k2) :: (figF 10 (m : Nat) ++ ds)), hd, _, _, _, by rw [lm]; rfl, rfl, hh, by rw [slF_len, List.length_cons, List.length_append]; omega, fun b hb => ?_⟩
          rcases List.mem_append.mp hb with hb | hb
          · rcases List.mem_cons.mp hb with rfl | hb
            · omega
            · rcases List.mem_append.mp hb with hb | hb
              · exact fig_b (by omega) b hb
              · exact hdb b hb
          · exact sealF_byte b hb
      · rw [decide_eq_false hk]
        walk_at "go"
        exact ⟨cs, hd, _, _, _, by rw [lm]; rfl, rfl, hh, by omega, cb⟩
    · clear hS2 hh rok hl2 hl3 cl cb
      rintro σ S' ⟨cs, hd, y9, y10, y11, rfl, hSh, hh, cl, cb⟩
      have rok : RowOk cs := ⟨by omega, cb⟩
      walk_at "go"
      refine ⟨R, m, _, rfl, hR, hm, pl_ints _, fun bs e _ => ?_, fun z => by rw [rowW_ints rok.1 rok.2] at z; cases z⟩
      rw [ints_inj e]
      rw [own_same rok hmy]
      walk_at "go"
      refine ⟨_, m, _, rfl, rok, hmy, hm, ?_⟩
      walk_at "go"
      have fo := own_fine (m := m) rok hmy
      refine ⟨_, rfl, fo.1, fo.2, ?_⟩
      clear fo
      walk_at "go"
      refine ⟨fun σ S' => ∃ (hd : List Dt) (y10 y11 : Option Dt), σ = [some (.kl (ns.map Dt.int)), some (.ref h), some v, some (floorD c_Floor R), some (.int (m : Nat)), some (.int ((ofF R 72).length : Nat)), some (.tup (cs.map Dt.int)), some (.bl (unslF cs).isSome), y10, y11] ∧ S' h = some (.lst hd) ∧ HandL hd, ?_, ?_⟩
      · have lc : (cs.map Dt.int).length = cs.length := List.length_map ..
        walk_at "go"
        rw [lc]
        by_cases h3 : 3 < cs.length
        · rw [decide_eq_true (show (3 : Int) < (cs.length : Int) by omega)]
          walk_at "go"
          rw [cutm4 (by omega)]
          refine ⟨_, .inr rfl, by rw [List.length_take]; omega, ?_⟩
          walk_at "go"
          refine ⟨fl_ints _ _, fl_ints _ _, ?_⟩
          rw [eqD_ints, unsl_iff (by omega)]
          walk_at "go"
          by_cases he : slF (cs.take (cs.length - 4)) = cs
          · rw [if_pos he, decide_eq_true he]
            exact ⟨hd, _, _, rfl, hSh, hh⟩
          · rw [if_neg he, decide_eq_false he]
            exact ⟨hd, _, _, rfl, hSh, hh⟩
        · rw [decide_eq_false (show ¬(3 : Int) < (cs.length : Int) by omega)]
          have e : unslF cs = none := if_pos (by omega)
          rw [e]
          walk_at "go"
          exact ⟨hd, _, _, rfl, hSh, hh⟩
      · clear hSh hh
        rintro σ S' ⟨hd, y10, y11, rfl, hSh, hh⟩
        walk_at "go"
        refine ⟨fun σ S' => ∃ (hd : List Dt) (y9 y10 y11 : Option Dt), σ = [some (.kl (ns.map Dt.int)), some (.ref h), some v, some (floorD c_Floor R), some (.int (m : Nat)), some (.int ((ofF R 72).length : Nat)), some (.tup (cs.map Dt.int)), y9, y10, y11] ∧ S' h = some (.lst hd) ∧ HandL hd, ?_, ?_⟩
        · walk_at "go"
          refine ⟨_, rfl, pl_ints _, fun bs e _ => ?_, fun z => by rw [rowW_ints rok.1 rok.2] at z; cases z⟩
          rw [ints_inj e]
          cases eu : unslF cs with
          | none =>
            walk_at "go"
            refine ⟨.non, rfl, rfl, Nat.le_of_ble_eq_true rfl, ?_⟩
            walk_at "go"
            exact ⟨hd, _, _, _, rfl, hSh, hh⟩
          | some r =>
            have h4 : 4 ≤ cs.length := by
              unfold unslF at eu
              split at eu
              · cases eu
              · omega
            have er : r = cs.take (cs.length - 4) := by
              rw [unsl_iff h4] at eu
              split at eu
              · cases eu
                rfl
              · cases eu
            walk_at "go"
            rw [cutm4 h4, ← er]
            have fr := fine_row (bs := r) (by rw [er, List.length_take]; omega)
            refine ⟨_, rfl, fr.1, fr.2, ?_⟩
            walk_at "go"
            exact ⟨hd, _, _, _, rfl, hSh, hh⟩
        · clear hSh hh
          rintro σ S' ⟨hd, y9, y10, y11, rfl, hSh, hh⟩
          walk_at "go"
          refine ⟨h, hd, rfl, hSh, hh, fun x hd nx hh => ?_⟩
          walk_at "go"
          refine ⟨h, 8, hd, rfl, sup_same, hh, by decide, log_small (by decide), fun k hd k0 k1 hh => ?_⟩
          rw [sup_sup]
          walk_at "go"
          obtain ⟨w, e2, hm2⟩ := atI_some k0 (xs := [Dt.non, .int 0, .lst (cs.map Dt.int), .str "row", .tup [.int 256], .dK [] [], .tup [.bl true, .int 1, .int 1, .int 1, .int 1, .int 1], x]) (by show k < 8; exact k1)
          rw [show atI _ k = _ from e2]
          have hw : pl w = true ∧ rowW w = false := by
            simp only [List.mem_cons, List.not_mem_nil, or_false] at hm2
            rcases hm2 with rfl | rfl | rfl | rfl | rfl | rfl | rfl | rfl
            · exact ⟨rfl, rfl⟩
            · exact ⟨rfl, rfl⟩
            · exact ⟨pl_lst_ints _, rfl⟩
            · exact ⟨rfl, rfl⟩
            · exact ⟨pl_ints [256], rfl⟩
            · exact ⟨rfl, rfl⟩
            · exact ⟨pl_tup_of fun w hw => by
                simp only [List.mem_cons, List.not_mem_nil, or_false] at hw
                rcases hw with rfl | rfl | rfl | rfl | rfl | rfl <;> rfl, rfl⟩
            · exact ⟨nx.1, nx.2.1⟩
          clear e2 hm2
          walk_at "go"
          refine ⟨R, m, w, rfl, hR, hm, hw.1, fun bs e rk => absurd hw.2 (by rw [e, rowW_ints rk.1 rk.2]; decide), fun _ => ?_⟩
          walk_at "go"
          exact hN _ _ ⟨hd, _, rfl, rfl, sup_same, hh⟩
  · rintro σ S' ⟨hd, y, rfl, hy, hSh, hh⟩
    refine ⟨trivial, ?_⟩
    walk_at "go"
    exact clo.of (g _)
end
theorem all_mk {P : Program} {w : World} {K : Frg} {mg : Str → Option Value} {h : Heap} {fa : Addr}
    {tk_WALL : Tok}
    {tk_FREE : Tok}
    {tk_HOME : Tok}
    {tk_STATION : Tok}
    {tk_MOST_ROWS : Tok}
    {tk_MOST_HOMES : Tok}
    {fI_BadFloor N_BadFloor : Addr} {nm_BadFloor q_BadFloor : Str} {bs_BadFloor bm_BadFloor sub_BadFloor : List Value} {sn_BadFloor : List Str} {ab_BadFloor : Bool} {col_BadFloor : Option Bool} {dd_BadFloor od_BadFloor an_BadFloor : Option Addr} {k0_BadFloor k1_BadFloor k2_BadFloor k3_BadFloor k5_BadFloor : Option Value} {oc_BadFloor kV_BadFloor dc_BadFloor pm_BadFloor cd_BadFloor ct_BadFloor : Value} {sl_BadFloor : Array (Option Value)}
    {tk_MOST_MATCH : Tok}
    {tk_BYTE : Tok}
    {tk_MOST_BYTES : Tok}
    {tk_MARK_STEP : Tok}
    {tk_MARK_PRIME : Tok}
    {tk_MARK_BEGIN : Tok}
    {tk_SEAL_BOUND : Tok}
    {tk_SEAL_BYTES : Tok}
    {fI_BadRow N_BadRow : Addr} {nm_BadRow q_BadRow : Str} {bs_BadRow bm_BadRow sub_BadRow : List Value} {sn_BadRow : List Str} {ab_BadRow : Bool} {col_BadRow : Option Bool} {dd_BadRow od_BadRow an_BadRow : Option Addr} {k0_BadRow k1_BadRow k2_BadRow k3_BadRow k5_BadRow : Option Value} {oc_BadRow kV_BadRow dc_BadRow pm_BadRow cd_BadRow ct_BadRow : Value} {sl_BadRow : Array (Option Value)}
    {tk_MOST_FIGURES : Tok}
    {tk_FIGURE : Tok}
    {tk_WHOLE_BOUND : Tok}
    {tk_SAY : Tok}
    {tk_MOST_NUMBER : Tok}
    {tk_ORDERS : Tok}
    {tk_MOST_ORDERS_AT_ONCE : Tok}
    {tk_TELL : Tok}
    {tk_MOST_COUNT : Tok}
    {tk_MOST_TOLD : Tok}
    {a_SEAL_WORTHS nn_SEAL_WORTHS : Nat} {sl_SEAL_WORTHS : Array (Option Value)} {tk_SEAL_WORTHS_0 tk_SEAL_WORTHS_1 tk_SEAL_WORTHS_2 tk_SEAL_WORTHS_3 : Tok}
    {a_WORDS nn_WORDS : Nat} {sl_WORDS : Array (Option Value)} {tk_WORDS_0 tk_WORDS_1 tk_WORDS_2 : Tok}
    {a_KINDS nn_KINDS : Nat} {sl_KINDS : Array (Option Value)} {tk_KINDS_0 tk_KINDS_1 : Tok}
    {c_Floor : Addr}
    {c_Reader : Addr}
    {c_BadFloor c_NoNumber c_BadRow c_NoRow : Addr}
    {f__law_hand : Addr} {oc__law_hand kV__law_hand dc__law_hand pm__law_hand cd__law_hand ct__law_hand : Value} {od__law_hand an__law_hand : Option Addr} {sl__law_hand : Array (Option Value)}
    {f__law_draw : Addr} {oc__law_draw kV__law_draw dc__law_draw pm__law_draw cd__law_draw ct__law_draw : Value} {od__law_draw an__law_draw : Option Addr} {sl__law_draw : Array (Option Value)}
    {f__law_mark : Addr} {oc__law_mark kV__law_mark dc__law_mark pm__law_mark cd__law_mark ct__law_mark : Value} {od__law_mark an__law_mark : Option Addr} {sl__law_mark : Array (Option Value)}
    {f__law_seal : Addr} {oc__law_seal kV__law_seal dc__law_seal pm__law_seal cd__law_seal ct__law_seal : Value} {od__law_seal an__law_seal : Option Addr} {sl__law_seal : Array (Option Value)}
    {f__law_bent_row : Addr} {oc__law_bent_row kV__law_bent_row dc__law_bent_row pm__law_bent_row cd__law_bent_row ct__law_bent_row : Value} {od__law_bent_row an__law_bent_row : Option Addr} {sl__law_bent_row : Array (Option Value)}
    {f_all_spots : Addr} {oc_all_spots kV_all_spots dc_all_spots pm_all_spots cd_all_spots ct_all_spots : Value} {od_all_spots an_all_spots : Option Addr} {sl_all_spots : Array (Option Value)}
    {f_all_ties : Addr} {oc_all_ties kV_all_ties dc_all_ties pm_all_ties cd_all_ties ct_all_ties : Value} {od_all_ties an_all_ties : Option Addr} {sl_all_ties : Array (Option Value)}
    {f_spots_of : Addr} {oc_spots_of kV_spots_of dc_spots_of pm_spots_of cd_spots_of ct_spots_of : Value} {od_spots_of an_spots_of : Option Addr} {sl_spots_of : Array (Option Value)}
    {f_is_sized : Addr} {oc_is_sized kV_is_sized dc_is_sized pm_is_sized cd_is_sized ct_is_sized : Value} {od_is_sized an_is_sized : Option Addr} {sl_is_sized : Array (Option Value)}
    {f_is_row_floors : Addr} {oc_is_row_floors kV_is_row_floors dc_is_row_floors pm_is_row_floors cd_is_row_floors ct_is_row_floors : Value} {od_is_row_floors an_is_row_floors : Option Addr} {sl_is_row_floors : Array (Option Value)}
    {f_Floor_init : Addr} {oc_Floor_init kV_Floor_init dc_Floor_init pm_Floor_init cd_Floor_init ct_Floor_init : Value} {od_Floor_init an_Floor_init : Option Addr} {sl_Floor_init : Array (Option Value)}
    {f__law_floor : Addr} {oc__law_floor kV__law_floor dc__law_floor pm__law_floor cd__law_floor ct__law_floor : Value} {od__law_floor an__law_floor : Option Addr} {sl__law_floor : Array (Option Value)}
    {f__law_match : Addr} {oc__law_match kV__law_match dc__law_match pm__law_match cd__law_match ct__law_match : Value} {od__law_match an__law_match : Option Addr} {sl__law_match : Array (Option Value)}
    {f_homes : Addr} {oc_homes kV_homes dc_homes pm_homes cd_homes ct_homes : Value} {od_homes an_homes : Option Addr} {sl_homes : Array (Option Value)}
    {f__law_wide : Addr} {oc__law_wide kV__law_wide dc__law_wide pm__law_wide cd__law_wide ct__law_wide : Value} {od__law_wide an__law_wide : Option Addr} {sl__law_wide : Array (Option Value)}
    {f__law_entry_row : Addr} {oc__law_entry_row kV__law_entry_row dc__law_entry_row pm__law_entry_row cd__law_entry_row ct__law_entry_row : Value} {od__law_entry_row an__law_entry_row : Option Addr} {sl__law_entry_row : Array (Option Value)}
    {f__law_letter_row : Addr} {oc__law_letter_row kV__law_letter_row dc__law_letter_row pm__law_letter_row cd__law_letter_row ct__law_letter_row : Value} {od__law_letter_row an__law_letter_row : Option Addr} {sl__law_letter_row : Array (Option Value)}
    {f__law_is : Addr} {oc__law_is kV__law_is dc__law_is pm__law_is cd__law_is ct__law_is : Value} {od__law_is an__law_is : Option Addr} {sl__law_is : Array (Option Value)}
    {f_is_integer : Addr} {oc_is_integer kV_is_integer dc_is_integer pm_is_integer cd_is_integer ct_is_integer : Value} {od_is_integer an_is_integer : Option Addr} {sl_is_integer : Array (Option Value)}
    {f_is_within : Addr} {oc_is_within kV_is_within dc_is_within pm_is_within cd_is_within ct_is_within : Value} {od_is_within an_is_within : Option Addr} {sl_is_within : Array (Option Value)}
    {f_check_within : Addr} {oc_check_within kV_check_within dc_check_within pm_check_within cd_check_within ct_check_within : Value} {od_check_within an_check_within : Option Addr} {sl_check_within : Array (Option Value)}
    {f_check_match : Addr} {oc_check_match kV_check_match dc_check_match pm_check_match cd_check_match ct_check_match : Value} {od_check_match an_check_match : Option Addr} {sl_check_match : Array (Option Value)}
    {f_is_below : Addr} {oc_is_below kV_is_below dc_is_below pm_is_below cd_is_below ct_is_below : Value} {od_is_below an_is_below : Option Addr} {sl_is_below : Array (Option Value)}
    {f_is_row_rows : Addr} {oc_is_row_rows kV_is_row_rows dc_is_row_rows pm_is_row_rows cd_is_row_rows ct_is_row_rows : Value} {od_is_row_rows an_is_row_rows : Option Addr} {sl_is_row_rows : Array (Option Value)}
    {f_marked : Addr} {oc_marked kV_marked dc_marked pm_marked cd_marked ct_marked : Value} {od_marked an_marked : Option Addr} {sl_marked : Array (Option Value)}
    {f_mark_of : Addr} {oc_mark_of kV_mark_of dc_mark_of pm_mark_of cd_mark_of ct_mark_of : Value} {od_mark_of an_mark_of : Option Addr} {sl_mark_of : Array (Option Value)}
    {f_seal_of : Addr} {oc_seal_of kV_seal_of dc_seal_of pm_seal_of cd_seal_of ct_seal_of : Value} {od_seal_of an_seal_of : Option Addr} {sl_seal_of : Array (Option Value)}
    {f_without_seal : Addr} {oc_without_seal kV_without_seal dc_without_seal pm_without_seal cd_without_seal ct_without_seal : Value} {od_without_seal an_without_seal : Option Addr} {sl_without_seal : Array (Option Value)}
    {f_Reader_init : Addr} {oc_Reader_init kV_Reader_init dc_Reader_init pm_Reader_init cd_Reader_init ct_Reader_init : Value} {od_Reader_init an_Reader_init : Option Addr} {sl_Reader_init : Array (Option Value)}
    {f_Reader_next_byte : Addr} {oc_Reader_next_byte kV_Reader_next_byte dc_Reader_next_byte pm_Reader_next_byte cd_Reader_next_byte ct_Reader_next_byte : Value} {od_Reader_next_byte an_Reader_next_byte : Option Addr} {sl_Reader_next_byte : Array (Option Value)}
    {f_Reader_finish : Addr} {oc_Reader_finish kV_Reader_finish dc_Reader_finish pm_Reader_finish cd_Reader_finish ct_Reader_finish : Value} {od_Reader_finish an_Reader_finish : Option Addr} {sl_Reader_finish : Array (Option Value)}
    {f_number_at : Addr} {oc_number_at kV_number_at dc_number_at pm_number_at cd_number_at ct_number_at : Value} {od_number_at an_number_at : Option Addr} {sl_number_at : Array (Option Value)}
    {f_taken : Addr} {oc_taken kV_taken dc_taken pm_taken cd_taken ct_taken : Value} {od_taken an_taken : Option Addr} {sl_taken : Array (Option Value)}
    {f_Reader_next_number : Addr} {oc_Reader_next_number kV_Reader_next_number dc_Reader_next_number pm_Reader_next_number cd_Reader_next_number ct_Reader_next_number : Value} {od_Reader_next_number an_Reader_next_number : Option Addr} {sl_Reader_next_number : Array (Option Value)}
    {f_taken_counts : Addr} {oc_taken_counts kV_taken_counts dc_taken_counts pm_taken_counts cd_taken_counts ct_taken_counts : Value} {od_taken_counts an_taken_counts : Option Addr} {sl_taken_counts : Array (Option Value)}
    {f_taken_say : Addr} {oc_taken_say kV_taken_say dc_taken_say pm_taken_say cd_taken_say ct_taken_say : Value} {od_taken_say an_taken_say : Option Addr} {sl_taken_say : Array (Option Value)}
    {f_small_number : Addr} {oc_small_number kV_small_number dc_small_number pm_small_number cd_small_number ct_small_number : Value} {od_small_number an_small_number : Option Addr} {sl_small_number : Array (Option Value)}
    {f_taken_pair : Addr} {oc_taken_pair kV_taken_pair dc_taken_pair pm_taken_pair cd_taken_pair ct_taken_pair : Value} {od_taken_pair an_taken_pair : Option Addr} {sl_taken_pair : Array (Option Value)}
    {f_taken_entry : Addr} {oc_taken_entry kV_taken_entry dc_taken_entry pm_taken_entry cd_taken_entry ct_taken_entry : Value} {od_taken_entry an_taken_entry : Option Addr} {sl_taken_entry : Array (Option Value)}
    {f_taken_tell : Addr} {oc_taken_tell kV_taken_tell dc_taken_tell pm_taken_tell cd_taken_tell ct_taken_tell : Value} {od_taken_tell an_taken_tell : Option Addr} {sl_taken_tell : Array (Option Value)}
    {f_taken_letter : Addr} {oc_taken_letter kV_taken_letter dc_taken_letter pm_taken_letter cd_taken_letter ct_taken_letter : Value} {od_taken_letter an_taken_letter : Option Addr} {sl_taken_letter : Array (Option Value)}
    {f_are_counts : Addr} {oc_are_counts kV_are_counts dc_are_counts pm_are_counts cd_are_counts ct_are_counts : Value} {od_are_counts an_are_counts : Option Addr} {sl_are_counts : Array (Option Value)}
    {f_is_say : Addr} {oc_is_say kV_is_say dc_is_say pm_is_say cd_is_say ct_is_say : Value} {od_is_say an_is_say : Option Addr} {sl_is_say : Array (Option Value)}
    {f_is_pair : Addr} {oc_is_pair kV_is_pair dc_is_pair pm_is_pair cd_is_pair ct_is_pair : Value} {od_is_pair an_is_pair : Option Addr} {sl_is_pair : Array (Option Value)}
    {f_are_pairs : Addr} {oc_are_pairs kV_are_pairs dc_are_pairs pm_are_pairs cd_are_pairs ct_are_pairs : Value} {od_are_pairs an_are_pairs : Option Addr} {sl_are_pairs : Array (Option Value)}
    {f_has_form : Addr} {oc_has_form kV_has_form dc_has_form pm_has_form cd_has_form ct_has_form : Value} {od_has_form an_has_form : Option Addr} {sl_has_form : Array (Option Value)}
    {f_is_small_entry : Addr} {oc_is_small_entry kV_is_small_entry dc_is_small_entry pm_is_small_entry cd_is_small_entry ct_is_small_entry : Value} {od_is_small_entry an_is_small_entry : Option Addr} {sl_is_small_entry : Array (Option Value)}
    {f_is_tell : Addr} {oc_is_tell kV_is_tell dc_is_tell pm_is_tell cd_is_tell ct_is_tell : Value} {od_is_tell an_is_tell : Option Addr} {sl_is_tell : Array (Option Value)}
    {f_is_letter : Addr} {oc_is_letter kV_is_letter dc_is_letter pm_is_letter cd_is_letter ct_is_letter : Value} {od_is_letter an_is_letter : Option Addr} {sl_is_letter : Array (Option Value)}
    {f_letter_of : Addr} {oc_letter_of kV_letter_of dc_letter_of pm_letter_of cd_letter_of ct_letter_of : Value} {od_letter_of an_letter_of : Option Addr} {sl_letter_of : Array (Option Value)}
    {f_read_letter : Addr} {oc_read_letter kV_read_letter dc_read_letter pm_read_letter cd_read_letter ct_read_letter : Value} {od_read_letter an_read_letter : Option Addr} {sl_read_letter : Array (Option Value)}
    {f__law_some_letter : Addr} {oc__law_some_letter kV__law_some_letter dc__law_some_letter pm__law_some_letter cd__law_some_letter ct__law_some_letter : Value} {od__law_some_letter an__law_some_letter : Option Addr} {sl__law_some_letter : Array (Option Value)}
    {f__law_read_wide : Addr} {oc__law_read_wide kV__law_read_wide dc__law_read_wide pm__law_read_wide cd__law_read_wide ct__law_read_wide : Value} {od__law_read_wide an__law_read_wide : Option Addr} {sl__law_read_wide : Array (Option Value)}
    {f__law_read_wides : Addr} {oc__law_read_wides kV__law_read_wides dc__law_read_wides pm__law_read_wides cd__law_read_wides ct__law_read_wides : Value} {od__law_read_wides an__law_read_wides : Option Addr} {sl__law_read_wides : Array (Option Value)}
    {f__law_read_say : Addr} {oc__law_read_say kV__law_read_say dc__law_read_say pm__law_read_say cd__law_read_say ct__law_read_say : Value} {od__law_read_say an__law_read_say : Option Addr} {sl__law_read_say : Array (Option Value)}
    {f__law_read_entry : Addr} {oc__law_read_entry kV__law_read_entry dc__law_read_entry pm__law_read_entry cd__law_read_entry ct__law_read_entry : Value} {od__law_read_entry an__law_read_entry : Option Addr} {sl__law_read_entry : Array (Option Value)}
    {f__law_read_tell : Addr} {oc__law_read_tell kV__law_read_tell dc__law_read_tell pm__law_read_tell cd__law_read_tell ct__law_read_tell : Value} {od__law_read_tell an__law_read_tell : Option Addr} {sl__law_read_tell : Array (Option Value)}
    {f__law_whole : Addr} {oc__law_whole kV__law_whole dc__law_whole pm__law_whole cd__law_whole ct__law_whole : Value} {od__law_whole an__law_whole : Option Addr} {sl__law_whole : Array (Option Value)}
    {f__law_read : Addr} {oc__law_read kV__law_read dc__law_read pm__law_read cd__law_read ct__law_read : Value} {od__law_read an__law_read : Option Addr} {sl__law_read : Array (Option Value)}
    {f_check_row : Addr} {oc_check_row kV_check_row dc_check_row pm_check_row cd_check_row ct_check_row : Value} {od_check_row an_check_row : Option Addr} {sl_check_row : Array (Option Value)}
    {f_unsealed : Addr} {oc_unsealed kV_unsealed dc_unsealed pm_unsealed cd_unsealed ct_unsealed : Value} {od_unsealed an_unsealed : Option Addr} {sl_unsealed : Array (Option Value)}
    {f__law_deep : Addr} {oc__law_deep kV__law_deep dc__law_deep pm__law_deep cd__law_deep ct__law_deep : Value} {od__law_deep an__law_deep : Option Addr} {sl__law_deep : Array (Option Value)}
    {f_law : Addr} {oc_law kV_law dc_law pm_law cd_law ct_law : Value} {od_law an_law : Option Addr} {sl_law : Array (Option Value)}
    (KX : K.In h) (G : h.Ns mainGlobals mg) (hmg : mg "law" = some (.ref fa))
    (n_len : PySem.W.nsIn K mainGlobals "len" = some none)
    (n_abs : PySem.W.nsIn K mainGlobals "abs" = some none)
    (n_int : PySem.W.nsIn K mainGlobals "int" = some none)
    (n_tuple : PySem.W.nsIn K mainGlobals "tuple" = some none)
    (n_list : PySem.W.nsIn K mainGlobals "list" = some none)
    (n_enumerate : PySem.W.nsIn K mainGlobals "enumerate" = some none)
    (g_WALL : PySem.W.nsIn K mainGlobals "WALL" = some (some (.str "#" tk_WALL)))
    (n_sorted : PySem.W.nsIn K mainGlobals "sorted" = some none)
    (n_isinstance : PySem.W.nsIn K mainGlobals "isinstance" = some none)
    (n_all : PySem.W.nsIn K mainGlobals "all" = some none)
    (g_FREE : PySem.W.nsIn K mainGlobals "FREE" = some (some (.str "." tk_FREE)))
    (g_HOME : PySem.W.nsIn K mainGlobals "HOME" = some (some (.str "H" tk_HOME)))
    (g_STATION : PySem.W.nsIn K mainGlobals "STATION" = some (some (.str "S" tk_STATION)))
    (g_MOST_ROWS : PySem.W.nsIn K mainGlobals "MOST_ROWS" = some (some (.int (12) tk_MOST_ROWS)))
    (n_str : PySem.W.nsIn K mainGlobals "str" = some none)
    (n_sum : PySem.W.nsIn K mainGlobals "sum" = some none)
    (g_MOST_HOMES : PySem.W.nsIn K mainGlobals "MOST_HOMES" = some (some (.int (6) tk_MOST_HOMES)))
    (aE_BadFloor : PySem.W.nsIn K mainGlobals "BadFloor" = some (some (.ref c_BadFloor)))
    (xL_BadFloor : K.lookup c_BadFloor = some (excClassObj nm_BadFloor q_BadFloor c_BadFloor N_BadFloor bs_BadFloor bm_BadFloor true sn_BadFloor sub_BadFloor ab_BadFloor col_BadFloor dd_BadFloor k0_BadFloor k1_BadFloor k2_BadFloor k3_BadFloor k5_BadFloor "ValueError.__new__"))
    (bR_BadFloor : PySem.HandSPX.refsVE bm_BadFloor = true)
    (sa_BadFloor : PySem.W.findIn K (.ref c_BadFloor) "__setattr__" = some (some (.builtin "object.__setattr__")))
    (ga_BadFloor : PySem.W.findIn K (.ref c_BadFloor) "__getattribute__" = some (some (.builtin "BaseException.__getattribute__")))
    (gg_BadFloor : PySem.W.findIn K (.ref c_BadFloor) "__getattr__" = some none)
    (no_BadFloor : PySem.W.findIn K (.ref c_BadFloor) "part" = some none)
    (iC_BadFloor : PySem.W.findIn K (.ref c_BadFloor) "__init__" = some (some (.ref fI_BadFloor)))
    (tI_BadFloor : PySem.W.typeIn K (.ref fI_BadFloor) = some (.type "function"))
    (lI_BadFloor : K.lookup fI_BadFloor = some ⟨oc_BadFloor, od_BadFloor, .func (PySem.W.fnOf "__init__" "BadFloor.__init__" (defArgs i_BadFloor) (defBody i_BadFloor) (defScope i_BadFloor) .none kV_BadFloor dc_BadFloor pm_BadFloor an_BadFloor cd_BadFloor ct_BadFloor), sl_BadFloor⟩)
    (cI_BadFloor : PySem.W.codeIn K cd_BadFloor "BadFloor.__init__" = true)
    (kI_BadFloor : PySem.W.keepIn K (.ref fI_BadFloor) = true)
    (kE_BadFloor : PySem.W.keepIn K (.ref c_BadFloor) = true)
    (bE_BadFloor : PySem.W.subIn K (.ref c_BadFloor) (.type "BaseException") = some true)
    (tE_BadFloor : PySem.W.typeIn K (.ref c_BadFloor) = some (.type "type"))
    (hE_BadFloor : PySem.W.hasDictIn K c_BadFloor = true)
    (n_bool : PySem.W.nsIn K mainGlobals "bool" = some none)
    (n_zip : PySem.W.nsIn K mainGlobals "zip" = some none)
    (aE_NoNumber : PySem.W.nsIn K mainGlobals "NoNumber" = some (some (.ref c_NoNumber)))
    (xE_NoNumber : PySem.W.excIn K c_NoNumber [.type "ValueError", .type "Exception", .type "BaseException", .type "object"] "ValueError.__new__" = true)
    (kE_NoNumber : PySem.W.keepIn K (.ref c_NoNumber) = true)
    (bE_NoNumber : PySem.W.subIn K (.ref c_NoNumber) (.type "BaseException") = some true)
    (tE_NoNumber : PySem.W.typeIn K (.ref c_NoNumber) = some (.type "type"))
    (g_MOST_MATCH : PySem.W.nsIn K mainGlobals "MOST_MATCH" = some (some (.int (4294967296) tk_MOST_MATCH)))
    (g_BYTE : PySem.W.nsIn K mainGlobals "BYTE" = some (some (.int (256) tk_BYTE)))
    (g_MOST_BYTES : PySem.W.nsIn K mainGlobals "MOST_BYTES" = some (some (.int (300000) tk_MOST_BYTES)))
    (g_MARK_STEP : PySem.W.nsIn K mainGlobals "MARK_STEP" = some (some (.int (1000003) tk_MARK_STEP)))
    (g_MARK_PRIME : PySem.W.nsIn K mainGlobals "MARK_PRIME" = some (some (.int (2305843009213693951) tk_MARK_PRIME)))
    (g_MARK_BEGIN : PySem.W.nsIn K mainGlobals "MARK_BEGIN" = some (some (.int (1) tk_MARK_BEGIN)))
    (g_SEAL_BOUND : PySem.W.nsIn K mainGlobals "SEAL_BOUND" = some (some (.int (4294967296) tk_SEAL_BOUND)))
    (g_SEAL_BYTES : PySem.W.nsIn K mainGlobals "SEAL_BYTES" = some (some (.int (4) tk_SEAL_BYTES)))
    (aE_BadRow : PySem.W.nsIn K mainGlobals "BadRow" = some (some (.ref c_BadRow)))
    (xL_BadRow : K.lookup c_BadRow = some (excClassObj nm_BadRow q_BadRow c_BadRow N_BadRow bs_BadRow bm_BadRow true sn_BadRow sub_BadRow ab_BadRow col_BadRow dd_BadRow k0_BadRow k1_BadRow k2_BadRow k3_BadRow k5_BadRow "ValueError.__new__"))
    (bR_BadRow : PySem.HandSPX.refsVE bm_BadRow = true)
    (sa_BadRow : PySem.W.findIn K (.ref c_BadRow) "__setattr__" = some (some (.builtin "object.__setattr__")))
    (ga_BadRow : PySem.W.findIn K (.ref c_BadRow) "__getattribute__" = some (some (.builtin "BaseException.__getattribute__")))
    (gg_BadRow : PySem.W.findIn K (.ref c_BadRow) "__getattr__" = some none)
    (no_BadRow : PySem.W.findIn K (.ref c_BadRow) "place" = some none)
    (iC_BadRow : PySem.W.findIn K (.ref c_BadRow) "__init__" = some (some (.ref fI_BadRow)))
    (tI_BadRow : PySem.W.typeIn K (.ref fI_BadRow) = some (.type "function"))
    (lI_BadRow : K.lookup fI_BadRow = some ⟨oc_BadRow, od_BadRow, .func (PySem.W.fnOf "__init__" "BadRow.__init__" (defArgs i_BadRow) (defBody i_BadRow) (defScope i_BadRow) .none kV_BadRow dc_BadRow pm_BadRow an_BadRow cd_BadRow ct_BadRow), sl_BadRow⟩)
    (cI_BadRow : PySem.W.codeIn K cd_BadRow "BadRow.__init__" = true)
    (kI_BadRow : PySem.W.keepIn K (.ref fI_BadRow) = true)
    (kE_BadRow : PySem.W.keepIn K (.ref c_BadRow) = true)
    (bE_BadRow : PySem.W.subIn K (.ref c_BadRow) (.type "BaseException") = some true)
    (tE_BadRow : PySem.W.typeIn K (.ref c_BadRow) = some (.type "type"))
    (hE_BadRow : PySem.W.hasDictIn K c_BadRow = true)
    (n_range : PySem.W.nsIn K mainGlobals "range" = some none)
    (n_min : PySem.W.nsIn K mainGlobals "min" = some none)
    (g_MOST_FIGURES : PySem.W.nsIn K mainGlobals "MOST_FIGURES" = some (some (.int (10) tk_MOST_FIGURES)))
    (g_FIGURE : PySem.W.nsIn K mainGlobals "FIGURE" = some (some (.int (128) tk_FIGURE)))
    (g_WHOLE_BOUND : PySem.W.nsIn K mainGlobals "WHOLE_BOUND" = some (some (.int (18446744073709551616) tk_WHOLE_BOUND)))
    (g_SAY : PySem.W.nsIn K mainGlobals "SAY" = some (some (.str "say" tk_SAY)))
    (g_MOST_NUMBER : PySem.W.nsIn K mainGlobals "MOST_NUMBER" = some (some (.int (4294967296) tk_MOST_NUMBER)))
    (g_ORDERS : PySem.W.nsIn K mainGlobals "ORDERS" = some (some (.str "orders" tk_ORDERS)))
    (g_MOST_ORDERS_AT_ONCE : PySem.W.nsIn K mainGlobals "MOST_ORDERS_AT_ONCE" = some (some (.int (6) tk_MOST_ORDERS_AT_ONCE)))
    (g_TELL : PySem.W.nsIn K mainGlobals "TELL" = some (some (.str "tell" tk_TELL)))
    (g_MOST_COUNT : PySem.W.nsIn K mainGlobals "MOST_COUNT" = some (some (.int (100000) tk_MOST_COUNT)))
    (n_max : PySem.W.nsIn K mainGlobals "max" = some none)
    (g_MOST_TOLD : PySem.W.nsIn K mainGlobals "MOST_TOLD" = some (some (.int (60) tk_MOST_TOLD)))
    (aE_NoRow : PySem.W.nsIn K mainGlobals "NoRow" = some (some (.ref c_NoRow)))
    (xE_NoRow : PySem.W.excIn K c_NoRow [.type "ValueError", .type "Exception", .type "BaseException", .type "object"] "ValueError.__new__" = true)
    (kE_NoRow : PySem.W.keepIn K (.ref c_NoRow) = true)
    (bE_NoRow : PySem.W.subIn K (.ref c_NoRow) (.type "BaseException") = some true)
    (tE_NoRow : PySem.W.typeIn K (.ref c_NoRow) = some (.type "type"))
    (ga_SEAL_WORTHS : PySem.W.nsIn K mainGlobals "SEAL_WORTHS" = some (some (.ref a_SEAL_WORTHS)))
    (gl_SEAL_WORTHS : K.lookup a_SEAL_WORTHS = some ⟨.type "tuple", none, .seq #[.int (1) tk_SEAL_WORTHS_0, .int (256) tk_SEAL_WORTHS_1, .int (65536) tk_SEAL_WORTHS_2, .int (16777216) tk_SEAL_WORTHS_3] nn_SEAL_WORTHS, sl_SEAL_WORTHS⟩)
    (ga_WORDS : PySem.W.nsIn K mainGlobals "WORDS" = some (some (.ref a_WORDS)))
    (gl_WORDS : K.lookup a_WORDS = some ⟨.type "tuple", none, .seq #[.str "orders" tk_WORDS_0, .str "out" tk_WORDS_1, .str "in" tk_WORDS_2] nn_WORDS, sl_WORDS⟩)
    (ga_KINDS : PySem.W.nsIn K mainGlobals "KINDS" = some (some (.ref a_KINDS)))
    (gl_KINDS : K.lookup a_KINDS = some ⟨.type "tuple", none, .seq #[.str "say" tk_KINDS_0, .str "tell" tk_KINDS_1] nn_KINDS, sl_KINDS⟩)
    (aC_Floor : PySem.W.nsIn K mainGlobals "Floor" = some (some (.ref c_Floor)))
    (mC_Floor : PySem.W.makesIn K c_Floor = true)
    (kC_Floor : PySem.W.keepIn K (.ref c_Floor) = true)
    (pg_Floor : PySem.W.plainGet K c_Floor Str.empty = true)
    (hd_Floor : PySem.W.hasDictIn K c_Floor = true)
    (po_Floor : PySem.W.plainOver K c_Floor = true)
    (sa_Floor : PySem.W.findIn K (.ref c_Floor) "__setattr__" = some (some (.builtin "object.__setattr__")))
    (aC_Reader : PySem.W.nsIn K mainGlobals "Reader" = some (some (.ref c_Reader)))
    (mC_Reader : PySem.W.makesIn K c_Reader = true)
    (kC_Reader : PySem.W.keepIn K (.ref c_Reader) = true)
    (pg_Reader : PySem.W.plainGet K c_Reader Str.empty = true)
    (hd_Reader : PySem.W.hasDictIn K c_Reader = true)
    (po_Reader : PySem.W.plainOver K c_Reader = true)
    (sa_Reader : PySem.W.findIn K (.ref c_Reader) "__setattr__" = some (some (.builtin "object.__setattr__")))
    (no_Floor_spots : PySem.W.findIn K (.ref c_Floor) "spots" = some none)
    (no_Floor_stops : PySem.W.findIn K (.ref c_Floor) "stops" = some none)
    (no_Floor_rests : PySem.W.findIn K (.ref c_Floor) "rests" = some none)
    (no_Floor_ties : PySem.W.findIn K (.ref c_Floor) "ties" = some none)
    (no_Floor_rows : PySem.W.findIn K (.ref c_Floor) "rows" = some none)
    (no_Reader_last : PySem.W.findIn K (.ref c_Reader) "last" = some none)
    (no_Reader_at : PySem.W.findIn K (.ref c_Reader) "at" = some none)
    (no_Reader_row : PySem.W.findIn K (.ref c_Reader) "row" = some none)
    (m_BadFloor_BadRow : PySem.W.exmOne K (.ref c_BadFloor) (.ref c_BadRow) = some false)
    (m_NoNumber_BadRow : PySem.W.exmOne K (.ref c_NoNumber) (.ref c_BadRow) = some false)
    (m_BadRow_BadRow : PySem.W.exmOne K (.ref c_BadRow) (.ref c_BadRow) = some true)
    (m_NoRow_BadRow : PySem.W.exmOne K (.ref c_NoRow) (.ref c_BadRow) = some false)
    (a__law_hand : PySem.W.nsIn K mainGlobals "_law_hand" = some (some (.ref f__law_hand)))
    (l__law_hand : K.lookup f__law_hand = some ⟨oc__law_hand, od__law_hand, .func (PySem.W.fnOf "_law_hand" "_law_hand" (defArgs s__law_hand) (defBody s__law_hand) (defScope s__law_hand) .none kV__law_hand dc__law_hand pm__law_hand an__law_hand cd__law_hand ct__law_hand), sl__law_hand⟩)
    (c__law_hand_ : PySem.W.codeIn K cd__law_hand "_law_hand" = true)
    (k__law_hand : PySem.W.keepIn K (.ref f__law_hand) = true)
    (a__law_draw : PySem.W.nsIn K mainGlobals "_law_draw" = some (some (.ref f__law_draw)))
    (l__law_draw : K.lookup f__law_draw = some ⟨oc__law_draw, od__law_draw, .func (PySem.W.fnOf "_law_draw" "_law_draw" (defArgs s__law_draw) (defBody s__law_draw) (defScope s__law_draw) .none kV__law_draw dc__law_draw pm__law_draw an__law_draw cd__law_draw ct__law_draw), sl__law_draw⟩)
    (c__law_draw_ : PySem.W.codeIn K cd__law_draw "_law_draw" = true)
    (k__law_draw : PySem.W.keepIn K (.ref f__law_draw) = true)
    (a__law_mark : PySem.W.nsIn K mainGlobals "_law_mark" = some (some (.ref f__law_mark)))
    (l__law_mark : K.lookup f__law_mark = some ⟨oc__law_mark, od__law_mark, .func (PySem.W.fnOf "_law_mark" "_law_mark" (defArgs s__law_mark) (defBody s__law_mark) (defScope s__law_mark) .none kV__law_mark dc__law_mark pm__law_mark an__law_mark cd__law_mark ct__law_mark), sl__law_mark⟩)
    (c__law_mark_ : PySem.W.codeIn K cd__law_mark "_law_mark" = true)
    (k__law_mark : PySem.W.keepIn K (.ref f__law_mark) = true)
    (a__law_seal : PySem.W.nsIn K mainGlobals "_law_seal" = some (some (.ref f__law_seal)))
    (l__law_seal : K.lookup f__law_seal = some ⟨oc__law_seal, od__law_seal, .func (PySem.W.fnOf "_law_seal" "_law_seal" (defArgs s__law_seal) (defBody s__law_seal) (defScope s__law_seal) .none kV__law_seal dc__law_seal pm__law_seal an__law_seal cd__law_seal ct__law_seal), sl__law_seal⟩)
    (c__law_seal_ : PySem.W.codeIn K cd__law_seal "_law_seal" = true)
    (k__law_seal : PySem.W.keepIn K (.ref f__law_seal) = true)
    (a__law_bent_row : PySem.W.nsIn K mainGlobals "_law_bent_row" = some (some (.ref f__law_bent_row)))
    (l__law_bent_row : K.lookup f__law_bent_row = some ⟨oc__law_bent_row, od__law_bent_row, .func (PySem.W.fnOf "_law_bent_row" "_law_bent_row" (defArgs s__law_bent_row) (defBody s__law_bent_row) (defScope s__law_bent_row) .none kV__law_bent_row dc__law_bent_row pm__law_bent_row an__law_bent_row cd__law_bent_row ct__law_bent_row), sl__law_bent_row⟩)
    (c__law_bent_row_ : PySem.W.codeIn K cd__law_bent_row "_law_bent_row" = true)
    (k__law_bent_row : PySem.W.keepIn K (.ref f__law_bent_row) = true)
    (a_all_spots : PySem.W.nsIn K mainGlobals "all_spots" = some (some (.ref f_all_spots)))
    (l_all_spots : K.lookup f_all_spots = some ⟨oc_all_spots, od_all_spots, .func (PySem.W.fnOf "all_spots" "all_spots" (defArgs s_all_spots) (defBody s_all_spots) (defScope s_all_spots) .none kV_all_spots dc_all_spots pm_all_spots an_all_spots cd_all_spots ct_all_spots), sl_all_spots⟩)
    (c_all_spots_ : PySem.W.codeIn K cd_all_spots "all_spots" = true)
    (k_all_spots : PySem.W.keepIn K (.ref f_all_spots) = true)
    (a_all_ties : PySem.W.nsIn K mainGlobals "all_ties" = some (some (.ref f_all_ties)))
    (l_all_ties : K.lookup f_all_ties = some ⟨oc_all_ties, od_all_ties, .func (PySem.W.fnOf "all_ties" "all_ties" (defArgs s_all_ties) (defBody s_all_ties) (defScope s_all_ties) .none kV_all_ties dc_all_ties pm_all_ties an_all_ties cd_all_ties ct_all_ties), sl_all_ties⟩)
    (c_all_ties_ : PySem.W.codeIn K cd_all_ties "all_ties" = true)
    (k_all_ties : PySem.W.keepIn K (.ref f_all_ties) = true)
    (a_spots_of : PySem.W.nsIn K mainGlobals "spots_of" = some (some (.ref f_spots_of)))
    (l_spots_of : K.lookup f_spots_of = some ⟨oc_spots_of, od_spots_of, .func (PySem.W.fnOf "spots_of" "spots_of" (defArgs s_spots_of) (defBody s_spots_of) (defScope s_spots_of) .none kV_spots_of dc_spots_of pm_spots_of an_spots_of cd_spots_of ct_spots_of), sl_spots_of⟩)
    (c_spots_of_ : PySem.W.codeIn K cd_spots_of "spots_of" = true)
    (k_spots_of : PySem.W.keepIn K (.ref f_spots_of) = true)
    (a_is_sized : PySem.W.nsIn K mainGlobals "is_sized" = some (some (.ref f_is_sized)))
    (l_is_sized : K.lookup f_is_sized = some ⟨oc_is_sized, od_is_sized, .func (PySem.W.fnOf "is_sized" "is_sized" (defArgs s_is_sized) (defBody s_is_sized) (defScope s_is_sized) .none kV_is_sized dc_is_sized pm_is_sized an_is_sized cd_is_sized ct_is_sized), sl_is_sized⟩)
    (c_is_sized_ : PySem.W.codeIn K cd_is_sized "is_sized" = true)
    (k_is_sized : PySem.W.keepIn K (.ref f_is_sized) = true)
    (a_is_row_floors : PySem.W.nsIn K mainGlobals "is_row_floors" = some (some (.ref f_is_row_floors)))
    (l_is_row_floors : K.lookup f_is_row_floors = some ⟨oc_is_row_floors, od_is_row_floors, .func (PySem.W.fnOf "is_row" "is_row" (defArgs s_is_row_floors) (defBody s_is_row_floors) (defScope s_is_row_floors) .none kV_is_row_floors dc_is_row_floors pm_is_row_floors an_is_row_floors cd_is_row_floors ct_is_row_floors), sl_is_row_floors⟩)
    (c_is_row_floors_ : PySem.W.codeIn K cd_is_row_floors "is_row" = true)
    (k_is_row_floors : PySem.W.keepIn K (.ref f_is_row_floors) = true)
    (a_Floor_init : PySem.W.findIn K (.ref c_Floor) "__init__" = some (some (.ref f_Floor_init)))
    (i_Floor_init_ : PySem.W.isFn K (.ref f_Floor_init) = true)
    (l_Floor_init : K.lookup f_Floor_init = some ⟨oc_Floor_init, od_Floor_init, .func (PySem.W.fnOf "__init__" "Floor.__init__" (defArgs s_Floor_init) (defBody s_Floor_init) (defScope s_Floor_init) .none kV_Floor_init dc_Floor_init pm_Floor_init an_Floor_init cd_Floor_init ct_Floor_init), sl_Floor_init⟩)
    (c_Floor_init_ : PySem.W.codeIn K cd_Floor_init "Floor.__init__" = true)
    (k_Floor_init : PySem.W.keepIn K (.ref f_Floor_init) = true)
    (a__law_floor : PySem.W.nsIn K mainGlobals "_law_floor" = some (some (.ref f__law_floor)))
    (l__law_floor : K.lookup f__law_floor = some ⟨oc__law_floor, od__law_floor, .func (PySem.W.fnOf "_law_floor" "_law_floor" (defArgs s__law_floor) (defBody s__law_floor) (defScope s__law_floor) .none kV__law_floor dc__law_floor pm__law_floor an__law_floor cd__law_floor ct__law_floor), sl__law_floor⟩)
    (c__law_floor_ : PySem.W.codeIn K cd__law_floor "_law_floor" = true)
    (k__law_floor : PySem.W.keepIn K (.ref f__law_floor) = true)
    (a__law_match : PySem.W.nsIn K mainGlobals "_law_match" = some (some (.ref f__law_match)))
    (l__law_match : K.lookup f__law_match = some ⟨oc__law_match, od__law_match, .func (PySem.W.fnOf "_law_match" "_law_match" (defArgs s__law_match) (defBody s__law_match) (defScope s__law_match) .none kV__law_match dc__law_match pm__law_match an__law_match cd__law_match ct__law_match), sl__law_match⟩)
    (c__law_match_ : PySem.W.codeIn K cd__law_match "_law_match" = true)
    (k__law_match : PySem.W.keepIn K (.ref f__law_match) = true)
    (a_homes : PySem.W.nsIn K mainGlobals "homes" = some (some (.ref f_homes)))
    (l_homes : K.lookup f_homes = some ⟨oc_homes, od_homes, .func (PySem.W.fnOf "homes" "homes" (defArgs s_homes) (defBody s_homes) (defScope s_homes) .none kV_homes dc_homes pm_homes an_homes cd_homes ct_homes), sl_homes⟩)
    (c_homes_ : PySem.W.codeIn K cd_homes "homes" = true)
    (k_homes : PySem.W.keepIn K (.ref f_homes) = true)
    (a__law_wide : PySem.W.nsIn K mainGlobals "_law_wide" = some (some (.ref f__law_wide)))
    (l__law_wide : K.lookup f__law_wide = some ⟨oc__law_wide, od__law_wide, .func (PySem.W.fnOf "_law_wide" "_law_wide" (defArgs s__law_wide) (defBody s__law_wide) (defScope s__law_wide) .none kV__law_wide dc__law_wide pm__law_wide an__law_wide cd__law_wide ct__law_wide), sl__law_wide⟩)
    (c__law_wide_ : PySem.W.codeIn K cd__law_wide "_law_wide" = true)
    (k__law_wide : PySem.W.keepIn K (.ref f__law_wide) = true)
    (a__law_entry_row : PySem.W.nsIn K mainGlobals "_law_entry_row" = some (some (.ref f__law_entry_row)))
    (l__law_entry_row : K.lookup f__law_entry_row = some ⟨oc__law_entry_row, od__law_entry_row, .func (PySem.W.fnOf "_law_entry_row" "_law_entry_row" (defArgs s__law_entry_row) (defBody s__law_entry_row) (defScope s__law_entry_row) .none kV__law_entry_row dc__law_entry_row pm__law_entry_row an__law_entry_row cd__law_entry_row ct__law_entry_row), sl__law_entry_row⟩)
    (c__law_entry_row_ : PySem.W.codeIn K cd__law_entry_row "_law_entry_row" = true)
    (k__law_entry_row : PySem.W.keepIn K (.ref f__law_entry_row) = true)
    (a__law_letter_row : PySem.W.nsIn K mainGlobals "_law_letter_row" = some (some (.ref f__law_letter_row)))
    (l__law_letter_row : K.lookup f__law_letter_row = some ⟨oc__law_letter_row, od__law_letter_row, .func (PySem.W.fnOf "_law_letter_row" "_law_letter_row" (defArgs s__law_letter_row) (defBody s__law_letter_row) (defScope s__law_letter_row) .none kV__law_letter_row dc__law_letter_row pm__law_letter_row an__law_letter_row cd__law_letter_row ct__law_letter_row), sl__law_letter_row⟩)
    (c__law_letter_row_ : PySem.W.codeIn K cd__law_letter_row "_law_letter_row" = true)
    (k__law_letter_row : PySem.W.keepIn K (.ref f__law_letter_row) = true)
    (a__law_is : PySem.W.nsIn K mainGlobals "_law_is" = some (some (.ref f__law_is)))
    (l__law_is : K.lookup f__law_is = some ⟨oc__law_is, od__law_is, .func (PySem.W.fnOf "_law_is" "_law_is" (defArgs s__law_is) (defBody s__law_is) (defScope s__law_is) .none kV__law_is dc__law_is pm__law_is an__law_is cd__law_is ct__law_is), sl__law_is⟩)
    (c__law_is_ : PySem.W.codeIn K cd__law_is "_law_is" = true)
    (k__law_is : PySem.W.keepIn K (.ref f__law_is) = true)
    (a_is_integer : PySem.W.nsIn K mainGlobals "is_integer" = some (some (.ref f_is_integer)))
    (l_is_integer : K.lookup f_is_integer = some ⟨oc_is_integer, od_is_integer, .func (PySem.W.fnOf "is_integer" "is_integer" (defArgs s_is_integer) (defBody s_is_integer) (defScope s_is_integer) .none kV_is_integer dc_is_integer pm_is_integer an_is_integer cd_is_integer ct_is_integer), sl_is_integer⟩)
    (c_is_integer_ : PySem.W.codeIn K cd_is_integer "is_integer" = true)
    (k_is_integer : PySem.W.keepIn K (.ref f_is_integer) = true)
    (a_is_within : PySem.W.nsIn K mainGlobals "is_within" = some (some (.ref f_is_within)))
    (l_is_within : K.lookup f_is_within = some ⟨oc_is_within, od_is_within, .func (PySem.W.fnOf "is_within" "is_within" (defArgs s_is_within) (defBody s_is_within) (defScope s_is_within) .none kV_is_within dc_is_within pm_is_within an_is_within cd_is_within ct_is_within), sl_is_within⟩)
    (c_is_within_ : PySem.W.codeIn K cd_is_within "is_within" = true)
    (k_is_within : PySem.W.keepIn K (.ref f_is_within) = true)
    (a_check_within : PySem.W.nsIn K mainGlobals "check_within" = some (some (.ref f_check_within)))
    (l_check_within : K.lookup f_check_within = some ⟨oc_check_within, od_check_within, .func (PySem.W.fnOf "check_within" "check_within" (defArgs s_check_within) (defBody s_check_within) (defScope s_check_within) .none kV_check_within dc_check_within pm_check_within an_check_within cd_check_within ct_check_within), sl_check_within⟩)
    (c_check_within_ : PySem.W.codeIn K cd_check_within "check_within" = true)
    (k_check_within : PySem.W.keepIn K (.ref f_check_within) = true)
    (a_check_match : PySem.W.nsIn K mainGlobals "check_match" = some (some (.ref f_check_match)))
    (l_check_match : K.lookup f_check_match = some ⟨oc_check_match, od_check_match, .func (PySem.W.fnOf "check_match" "check_match" (defArgs s_check_match) (defBody s_check_match) (defScope s_check_match) .none kV_check_match dc_check_match pm_check_match an_check_match cd_check_match ct_check_match), sl_check_match⟩)
    (c_check_match_ : PySem.W.codeIn K cd_check_match "check_match" = true)
    (k_check_match : PySem.W.keepIn K (.ref f_check_match) = true)
    (a_is_below : PySem.W.nsIn K mainGlobals "is_below" = some (some (.ref f_is_below)))
    (l_is_below : K.lookup f_is_below = some ⟨oc_is_below, od_is_below, .func (PySem.W.fnOf "is_below" "is_below" (defArgs s_is_below) (defBody s_is_below) (defScope s_is_below) .none kV_is_below dc_is_below pm_is_below an_is_below cd_is_below ct_is_below), sl_is_below⟩)
    (c_is_below_ : PySem.W.codeIn K cd_is_below "is_below" = true)
    (k_is_below : PySem.W.keepIn K (.ref f_is_below) = true)
    (a_is_row_rows : PySem.W.nsIn K mainGlobals "is_row_rows" = some (some (.ref f_is_row_rows)))
    (l_is_row_rows : K.lookup f_is_row_rows = some ⟨oc_is_row_rows, od_is_row_rows, .func (PySem.W.fnOf "is_row" "is_row" (defArgs s_is_row_rows) (defBody s_is_row_rows) (defScope s_is_row_rows) .none kV_is_row_rows dc_is_row_rows pm_is_row_rows an_is_row_rows cd_is_row_rows ct_is_row_rows), sl_is_row_rows⟩)
    (c_is_row_rows_ : PySem.W.codeIn K cd_is_row_rows "is_row" = true)
    (k_is_row_rows : PySem.W.keepIn K (.ref f_is_row_rows) = true)
    (a_marked : PySem.W.nsIn K mainGlobals "marked" = some (some (.ref f_marked)))
    (l_marked : K.lookup f_marked = some ⟨oc_marked, od_marked, .func (PySem.W.fnOf "marked" "marked" (defArgs s_marked) (defBody s_marked) (defScope s_marked) .none kV_marked dc_marked pm_marked an_marked cd_marked ct_marked), sl_marked⟩)
    (c_marked_ : PySem.W.codeIn K cd_marked "marked" = true)
    (k_marked : PySem.W.keepIn K (.ref f_marked) = true)
    (a_mark_of : PySem.W.nsIn K mainGlobals "mark_of" = some (some (.ref f_mark_of)))
    (l_mark_of : K.lookup f_mark_of = some ⟨oc_mark_of, od_mark_of, .func (PySem.W.fnOf "mark_of" "mark_of" (defArgs s_mark_of) (defBody s_mark_of) (defScope s_mark_of) .none kV_mark_of dc_mark_of pm_mark_of an_mark_of cd_mark_of ct_mark_of), sl_mark_of⟩)
    (c_mark_of_ : PySem.W.codeIn K cd_mark_of "mark_of" = true)
    (k_mark_of : PySem.W.keepIn K (.ref f_mark_of) = true)
    (a_seal_of : PySem.W.nsIn K mainGlobals "seal_of" = some (some (.ref f_seal_of)))
    (l_seal_of : K.lookup f_seal_of = some ⟨oc_seal_of, od_seal_of, .func (PySem.W.fnOf "seal_of" "seal_of" (defArgs s_seal_of) (defBody s_seal_of) (defScope s_seal_of) .none kV_seal_of dc_seal_of pm_seal_of an_seal_of cd_seal_of ct_seal_of), sl_seal_of⟩)
    (c_seal_of_ : PySem.W.codeIn K cd_seal_of "seal_of" = true)
    (k_seal_of : PySem.W.keepIn K (.ref f_seal_of) = true)
    (a_without_seal : PySem.W.nsIn K mainGlobals "without_seal" = some (some (.ref f_without_seal)))
    (l_without_seal : K.lookup f_without_seal = some ⟨oc_without_seal, od_without_seal, .func (PySem.W.fnOf "without_seal" "without_seal" (defArgs s_without_seal) (defBody s_without_seal) (defScope s_without_seal) .none kV_without_seal dc_without_seal pm_without_seal an_without_seal cd_without_seal ct_without_seal), sl_without_seal⟩)
    (c_without_seal_ : PySem.W.codeIn K cd_without_seal "without_seal" = true)
    (k_without_seal : PySem.W.keepIn K (.ref f_without_seal) = true)
    (a_Reader_init : PySem.W.findIn K (.ref c_Reader) "__init__" = some (some (.ref f_Reader_init)))
    (i_Reader_init_ : PySem.W.isFn K (.ref f_Reader_init) = true)
    (l_Reader_init : K.lookup f_Reader_init = some ⟨oc_Reader_init, od_Reader_init, .func (PySem.W.fnOf "__init__" "Reader.__init__" (defArgs s_Reader_init) (defBody s_Reader_init) (defScope s_Reader_init) .none kV_Reader_init dc_Reader_init pm_Reader_init an_Reader_init cd_Reader_init ct_Reader_init), sl_Reader_init⟩)
    (c_Reader_init_ : PySem.W.codeIn K cd_Reader_init "Reader.__init__" = true)
    (k_Reader_init : PySem.W.keepIn K (.ref f_Reader_init) = true)
    (a_Reader_next_byte : PySem.W.findIn K (.ref c_Reader) "next_byte" = some (some (.ref f_Reader_next_byte)))
    (i_Reader_next_byte_ : PySem.W.isFn K (.ref f_Reader_next_byte) = true)
    (l_Reader_next_byte : K.lookup f_Reader_next_byte = some ⟨oc_Reader_next_byte, od_Reader_next_byte, .func (PySem.W.fnOf "next_byte" "Reader.next_byte" (defArgs s_Reader_next_byte) (defBody s_Reader_next_byte) (defScope s_Reader_next_byte) .none kV_Reader_next_byte dc_Reader_next_byte pm_Reader_next_byte an_Reader_next_byte cd_Reader_next_byte ct_Reader_next_byte), sl_Reader_next_byte⟩)
    (c_Reader_next_byte_ : PySem.W.codeIn K cd_Reader_next_byte "Reader.next_byte" = true)
    (k_Reader_next_byte : PySem.W.keepIn K (.ref f_Reader_next_byte) = true)
    (a_Reader_finish : PySem.W.findIn K (.ref c_Reader) "finish" = some (some (.ref f_Reader_finish)))
    (i_Reader_finish_ : PySem.W.isFn K (.ref f_Reader_finish) = true)
    (l_Reader_finish : K.lookup f_Reader_finish = some ⟨oc_Reader_finish, od_Reader_finish, .func (PySem.W.fnOf "finish" "Reader.finish" (defArgs s_Reader_finish) (defBody s_Reader_finish) (defScope s_Reader_finish) .none kV_Reader_finish dc_Reader_finish pm_Reader_finish an_Reader_finish cd_Reader_finish ct_Reader_finish), sl_Reader_finish⟩)
    (c_Reader_finish_ : PySem.W.codeIn K cd_Reader_finish "Reader.finish" = true)
    (k_Reader_finish : PySem.W.keepIn K (.ref f_Reader_finish) = true)
    (a_number_at : PySem.W.nsIn K mainGlobals "number_at" = some (some (.ref f_number_at)))
    (l_number_at : K.lookup f_number_at = some ⟨oc_number_at, od_number_at, .func (PySem.W.fnOf "number_at" "number_at" (defArgs s_number_at) (defBody s_number_at) (defScope s_number_at) .none kV_number_at dc_number_at pm_number_at an_number_at cd_number_at ct_number_at), sl_number_at⟩)
    (c_number_at_ : PySem.W.codeIn K cd_number_at "number_at" = true)
    (k_number_at : PySem.W.keepIn K (.ref f_number_at) = true)
    (a_taken : PySem.W.nsIn K mainGlobals "taken" = some (some (.ref f_taken)))
    (l_taken : K.lookup f_taken = some ⟨oc_taken, od_taken, .func (PySem.W.fnOf "taken" "taken" (defArgs s_taken) (defBody s_taken) (defScope s_taken) .none kV_taken dc_taken pm_taken an_taken cd_taken ct_taken), sl_taken⟩)
    (c_taken_ : PySem.W.codeIn K cd_taken "taken" = true)
    (k_taken : PySem.W.keepIn K (.ref f_taken) = true)
    (a_Reader_next_number : PySem.W.findIn K (.ref c_Reader) "next_number" = some (some (.ref f_Reader_next_number)))
    (i_Reader_next_number_ : PySem.W.isFn K (.ref f_Reader_next_number) = true)
    (l_Reader_next_number : K.lookup f_Reader_next_number = some ⟨oc_Reader_next_number, od_Reader_next_number, .func (PySem.W.fnOf "next_number" "Reader.next_number" (defArgs s_Reader_next_number) (defBody s_Reader_next_number) (defScope s_Reader_next_number) .none kV_Reader_next_number dc_Reader_next_number pm_Reader_next_number an_Reader_next_number cd_Reader_next_number ct_Reader_next_number), sl_Reader_next_number⟩)
    (c_Reader_next_number_ : PySem.W.codeIn K cd_Reader_next_number "Reader.next_number" = true)
    (k_Reader_next_number : PySem.W.keepIn K (.ref f_Reader_next_number) = true)
    (a_taken_counts : PySem.W.nsIn K mainGlobals "taken_counts" = some (some (.ref f_taken_counts)))
    (l_taken_counts : K.lookup f_taken_counts = some ⟨oc_taken_counts, od_taken_counts, .func (PySem.W.fnOf "taken_counts" "taken_counts" (defArgs s_taken_counts) (defBody s_taken_counts) (defScope s_taken_counts) .none kV_taken_counts dc_taken_counts pm_taken_counts an_taken_counts cd_taken_counts ct_taken_counts), sl_taken_counts⟩)
    (c_taken_counts_ : PySem.W.codeIn K cd_taken_counts "taken_counts" = true)
    (k_taken_counts : PySem.W.keepIn K (.ref f_taken_counts) = true)
    (a_taken_say : PySem.W.nsIn K mainGlobals "taken_say" = some (some (.ref f_taken_say)))
    (l_taken_say : K.lookup f_taken_say = some ⟨oc_taken_say, od_taken_say, .func (PySem.W.fnOf "taken_say" "taken_say" (defArgs s_taken_say) (defBody s_taken_say) (defScope s_taken_say) .none kV_taken_say dc_taken_say pm_taken_say an_taken_say cd_taken_say ct_taken_say), sl_taken_say⟩)
    (c_taken_say_ : PySem.W.codeIn K cd_taken_say "taken_say" = true)
    (k_taken_say : PySem.W.keepIn K (.ref f_taken_say) = true)
    (a_small_number : PySem.W.nsIn K mainGlobals "small_number" = some (some (.ref f_small_number)))
    (l_small_number : K.lookup f_small_number = some ⟨oc_small_number, od_small_number, .func (PySem.W.fnOf "small_number" "small_number" (defArgs s_small_number) (defBody s_small_number) (defScope s_small_number) .none kV_small_number dc_small_number pm_small_number an_small_number cd_small_number ct_small_number), sl_small_number⟩)
    (c_small_number_ : PySem.W.codeIn K cd_small_number "small_number" = true)
    (k_small_number : PySem.W.keepIn K (.ref f_small_number) = true)
    (a_taken_pair : PySem.W.nsIn K mainGlobals "taken_pair" = some (some (.ref f_taken_pair)))
    (l_taken_pair : K.lookup f_taken_pair = some ⟨oc_taken_pair, od_taken_pair, .func (PySem.W.fnOf "taken_pair" "taken_pair" (defArgs s_taken_pair) (defBody s_taken_pair) (defScope s_taken_pair) .none kV_taken_pair dc_taken_pair pm_taken_pair an_taken_pair cd_taken_pair ct_taken_pair), sl_taken_pair⟩)
    (c_taken_pair_ : PySem.W.codeIn K cd_taken_pair "taken_pair" = true)
    (k_taken_pair : PySem.W.keepIn K (.ref f_taken_pair) = true)
    (a_taken_entry : PySem.W.nsIn K mainGlobals "taken_entry" = some (some (.ref f_taken_entry)))
    (l_taken_entry : K.lookup f_taken_entry = some ⟨oc_taken_entry, od_taken_entry, .func (PySem.W.fnOf "taken_entry" "taken_entry" (defArgs s_taken_entry) (defBody s_taken_entry) (defScope s_taken_entry) .none kV_taken_entry dc_taken_entry pm_taken_entry an_taken_entry cd_taken_entry ct_taken_entry), sl_taken_entry⟩)
    (c_taken_entry_ : PySem.W.codeIn K cd_taken_entry "taken_entry" = true)
    (k_taken_entry : PySem.W.keepIn K (.ref f_taken_entry) = true)
    (a_taken_tell : PySem.W.nsIn K mainGlobals "taken_tell" = some (some (.ref f_taken_tell)))
    (l_taken_tell : K.lookup f_taken_tell = some ⟨oc_taken_tell, od_taken_tell, .func (PySem.W.fnOf "taken_tell" "taken_tell" (defArgs s_taken_tell) (defBody s_taken_tell) (defScope s_taken_tell) .none kV_taken_tell dc_taken_tell pm_taken_tell an_taken_tell cd_taken_tell ct_taken_tell), sl_taken_tell⟩)
    (c_taken_tell_ : PySem.W.codeIn K cd_taken_tell "taken_tell" = true)
    (k_taken_tell : PySem.W.keepIn K (.ref f_taken_tell) = true)
    (a_taken_letter : PySem.W.nsIn K mainGlobals "taken_letter" = some (some (.ref f_taken_letter)))
    (l_taken_letter : K.lookup f_taken_letter = some ⟨oc_taken_letter, od_taken_letter, .func (PySem.W.fnOf "taken_letter" "taken_letter" (defArgs s_taken_letter) (defBody s_taken_letter) (defScope s_taken_letter) .none kV_taken_letter dc_taken_letter pm_taken_letter an_taken_letter cd_taken_letter ct_taken_letter), sl_taken_letter⟩)
    (c_taken_letter_ : PySem.W.codeIn K cd_taken_letter "taken_letter" = true)
    (k_taken_letter : PySem.W.keepIn K (.ref f_taken_letter) = true)
    (a_are_counts : PySem.W.nsIn K mainGlobals "are_counts" = some (some (.ref f_are_counts)))
    (l_are_counts : K.lookup f_are_counts = some ⟨oc_are_counts, od_are_counts, .func (PySem.W.fnOf "are_counts" "are_counts" (defArgs s_are_counts) (defBody s_are_counts) (defScope s_are_counts) .none kV_are_counts dc_are_counts pm_are_counts an_are_counts cd_are_counts ct_are_counts), sl_are_counts⟩)
    (c_are_counts_ : PySem.W.codeIn K cd_are_counts "are_counts" = true)
    (k_are_counts : PySem.W.keepIn K (.ref f_are_counts) = true)
    (a_is_say : PySem.W.nsIn K mainGlobals "is_say" = some (some (.ref f_is_say)))
    (l_is_say : K.lookup f_is_say = some ⟨oc_is_say, od_is_say, .func (PySem.W.fnOf "is_say" "is_say" (defArgs s_is_say) (defBody s_is_say) (defScope s_is_say) .none kV_is_say dc_is_say pm_is_say an_is_say cd_is_say ct_is_say), sl_is_say⟩)
    (c_is_say_ : PySem.W.codeIn K cd_is_say "is_say" = true)
    (k_is_say : PySem.W.keepIn K (.ref f_is_say) = true)
    (a_is_pair : PySem.W.nsIn K mainGlobals "is_pair" = some (some (.ref f_is_pair)))
    (l_is_pair : K.lookup f_is_pair = some ⟨oc_is_pair, od_is_pair, .func (PySem.W.fnOf "is_pair" "is_pair" (defArgs s_is_pair) (defBody s_is_pair) (defScope s_is_pair) .none kV_is_pair dc_is_pair pm_is_pair an_is_pair cd_is_pair ct_is_pair), sl_is_pair⟩)
    (c_is_pair_ : PySem.W.codeIn K cd_is_pair "is_pair" = true)
    (k_is_pair : PySem.W.keepIn K (.ref f_is_pair) = true)
    (a_are_pairs : PySem.W.nsIn K mainGlobals "are_pairs" = some (some (.ref f_are_pairs)))
    (l_are_pairs : K.lookup f_are_pairs = some ⟨oc_are_pairs, od_are_pairs, .func (PySem.W.fnOf "are_pairs" "are_pairs" (defArgs s_are_pairs) (defBody s_are_pairs) (defScope s_are_pairs) .none kV_are_pairs dc_are_pairs pm_are_pairs an_are_pairs cd_are_pairs ct_are_pairs), sl_are_pairs⟩)
    (c_are_pairs_ : PySem.W.codeIn K cd_are_pairs "are_pairs" = true)
    (k_are_pairs : PySem.W.keepIn K (.ref f_are_pairs) = true)
    (a_has_form : PySem.W.nsIn K mainGlobals "has_form" = some (some (.ref f_has_form)))
    (l_has_form : K.lookup f_has_form = some ⟨oc_has_form, od_has_form, .func (PySem.W.fnOf "has_form" "has_form" (defArgs s_has_form) (defBody s_has_form) (defScope s_has_form) .none kV_has_form dc_has_form pm_has_form an_has_form cd_has_form ct_has_form), sl_has_form⟩)
    (c_has_form_ : PySem.W.codeIn K cd_has_form "has_form" = true)
    (k_has_form : PySem.W.keepIn K (.ref f_has_form) = true)
    (a_is_small_entry : PySem.W.nsIn K mainGlobals "is_small_entry" = some (some (.ref f_is_small_entry)))
    (l_is_small_entry : K.lookup f_is_small_entry = some ⟨oc_is_small_entry, od_is_small_entry, .func (PySem.W.fnOf "is_small_entry" "is_small_entry" (defArgs s_is_small_entry) (defBody s_is_small_entry) (defScope s_is_small_entry) .none kV_is_small_entry dc_is_small_entry pm_is_small_entry an_is_small_entry cd_is_small_entry ct_is_small_entry), sl_is_small_entry⟩)
    (c_is_small_entry_ : PySem.W.codeIn K cd_is_small_entry "is_small_entry" = true)
    (k_is_small_entry : PySem.W.keepIn K (.ref f_is_small_entry) = true)
    (a_is_tell : PySem.W.nsIn K mainGlobals "is_tell" = some (some (.ref f_is_tell)))
    (l_is_tell : K.lookup f_is_tell = some ⟨oc_is_tell, od_is_tell, .func (PySem.W.fnOf "is_tell" "is_tell" (defArgs s_is_tell) (defBody s_is_tell) (defScope s_is_tell) .none kV_is_tell dc_is_tell pm_is_tell an_is_tell cd_is_tell ct_is_tell), sl_is_tell⟩)
    (c_is_tell_ : PySem.W.codeIn K cd_is_tell "is_tell" = true)
    (k_is_tell : PySem.W.keepIn K (.ref f_is_tell) = true)
    (a_is_letter : PySem.W.nsIn K mainGlobals "is_letter" = some (some (.ref f_is_letter)))
    (l_is_letter : K.lookup f_is_letter = some ⟨oc_is_letter, od_is_letter, .func (PySem.W.fnOf "is_letter" "is_letter" (defArgs s_is_letter) (defBody s_is_letter) (defScope s_is_letter) .none kV_is_letter dc_is_letter pm_is_letter an_is_letter cd_is_letter ct_is_letter), sl_is_letter⟩)
    (c_is_letter_ : PySem.W.codeIn K cd_is_letter "is_letter" = true)
    (k_is_letter : PySem.W.keepIn K (.ref f_is_letter) = true)
    (a_letter_of : PySem.W.nsIn K mainGlobals "letter_of" = some (some (.ref f_letter_of)))
    (l_letter_of : K.lookup f_letter_of = some ⟨oc_letter_of, od_letter_of, .func (PySem.W.fnOf "letter_of" "letter_of" (defArgs s_letter_of) (defBody s_letter_of) (defScope s_letter_of) .none kV_letter_of dc_letter_of pm_letter_of an_letter_of cd_letter_of ct_letter_of), sl_letter_of⟩)
    (c_letter_of_ : PySem.W.codeIn K cd_letter_of "letter_of" = true)
    (k_letter_of : PySem.W.keepIn K (.ref f_letter_of) = true)
    (a_read_letter : PySem.W.nsIn K mainGlobals "read_letter" = some (some (.ref f_read_letter)))
    (l_read_letter : K.lookup f_read_letter = some ⟨oc_read_letter, od_read_letter, .func (PySem.W.fnOf "read_letter" "read_letter" (defArgs s_read_letter) (defBody s_read_letter) (defScope s_read_letter) .none kV_read_letter dc_read_letter pm_read_letter an_read_letter cd_read_letter ct_read_letter), sl_read_letter⟩)
    (c_read_letter_ : PySem.W.codeIn K cd_read_letter "read_letter" = true)
    (k_read_letter : PySem.W.keepIn K (.ref f_read_letter) = true)
    (a__law_some_letter : PySem.W.nsIn K mainGlobals "_law_some_letter" = some (some (.ref f__law_some_letter)))
    (l__law_some_letter : K.lookup f__law_some_letter = some ⟨oc__law_some_letter, od__law_some_letter, .func (PySem.W.fnOf "_law_some_letter" "_law_some_letter" (defArgs s__law_some_letter) (defBody s__law_some_letter) (defScope s__law_some_letter) .none kV__law_some_letter dc__law_some_letter pm__law_some_letter an__law_some_letter cd__law_some_letter ct__law_some_letter), sl__law_some_letter⟩)
    (c__law_some_letter_ : PySem.W.codeIn K cd__law_some_letter "_law_some_letter" = true)
    (k__law_some_letter : PySem.W.keepIn K (.ref f__law_some_letter) = true)
    (a__law_read_wide : PySem.W.nsIn K mainGlobals "_law_read_wide" = some (some (.ref f__law_read_wide)))
    (l__law_read_wide : K.lookup f__law_read_wide = some ⟨oc__law_read_wide, od__law_read_wide, .func (PySem.W.fnOf "_law_read_wide" "_law_read_wide" (defArgs s__law_read_wide) (defBody s__law_read_wide) (defScope s__law_read_wide) .none kV__law_read_wide dc__law_read_wide pm__law_read_wide an__law_read_wide cd__law_read_wide ct__law_read_wide), sl__law_read_wide⟩)
    (c__law_read_wide_ : PySem.W.codeIn K cd__law_read_wide "_law_read_wide" = true)
    (k__law_read_wide : PySem.W.keepIn K (.ref f__law_read_wide) = true)
    (a__law_read_wides : PySem.W.nsIn K mainGlobals "_law_read_wides" = some (some (.ref f__law_read_wides)))
    (l__law_read_wides : K.lookup f__law_read_wides = some ⟨oc__law_read_wides, od__law_read_wides, .func (PySem.W.fnOf "_law_read_wides" "_law_read_wides" (defArgs s__law_read_wides) (defBody s__law_read_wides) (defScope s__law_read_wides) .none kV__law_read_wides dc__law_read_wides pm__law_read_wides an__law_read_wides cd__law_read_wides ct__law_read_wides), sl__law_read_wides⟩)
    (c__law_read_wides_ : PySem.W.codeIn K cd__law_read_wides "_law_read_wides" = true)
    (k__law_read_wides : PySem.W.keepIn K (.ref f__law_read_wides) = true)
    (a__law_read_say : PySem.W.nsIn K mainGlobals "_law_read_say" = some (some (.ref f__law_read_say)))
    (l__law_read_say : K.lookup f__law_read_say = some ⟨oc__law_read_say, od__law_read_say, .func (PySem.W.fnOf "_law_read_say" "_law_read_say" (defArgs s__law_read_say) (defBody s__law_read_say) (defScope s__law_read_say) .none kV__law_read_say dc__law_read_say pm__law_read_say an__law_read_say cd__law_read_say ct__law_read_say), sl__law_read_say⟩)
    (c__law_read_say_ : PySem.W.codeIn K cd__law_read_say "_law_read_say" = true)
    (k__law_read_say : PySem.W.keepIn K (.ref f__law_read_say) = true)
    (a__law_read_entry : PySem.W.nsIn K mainGlobals "_law_read_entry" = some (some (.ref f__law_read_entry)))
    (l__law_read_entry : K.lookup f__law_read_entry = some ⟨oc__law_read_entry, od__law_read_entry, .func (PySem.W.fnOf "_law_read_entry" "_law_read_entry" (defArgs s__law_read_entry) (defBody s__law_read_entry) (defScope s__law_read_entry) .none kV__law_read_entry dc__law_read_entry pm__law_read_entry an__law_read_entry cd__law_read_entry ct__law_read_entry), sl__law_read_entry⟩)
    (c__law_read_entry_ : PySem.W.codeIn K cd__law_read_entry "_law_read_entry" = true)
    (k__law_read_entry : PySem.W.keepIn K (.ref f__law_read_entry) = true)
    (a__law_read_tell : PySem.W.nsIn K mainGlobals "_law_read_tell" = some (some (.ref f__law_read_tell)))
    (l__law_read_tell : K.lookup f__law_read_tell = some ⟨oc__law_read_tell, od__law_read_tell, .func (PySem.W.fnOf "_law_read_tell" "_law_read_tell" (defArgs s__law_read_tell) (defBody s__law_read_tell) (defScope s__law_read_tell) .none kV__law_read_tell dc__law_read_tell pm__law_read_tell an__law_read_tell cd__law_read_tell ct__law_read_tell), sl__law_read_tell⟩)
    (c__law_read_tell_ : PySem.W.codeIn K cd__law_read_tell "_law_read_tell" = true)
    (k__law_read_tell : PySem.W.keepIn K (.ref f__law_read_tell) = true)
    (a__law_whole : PySem.W.nsIn K mainGlobals "_law_whole" = some (some (.ref f__law_whole)))
    (l__law_whole : K.lookup f__law_whole = some ⟨oc__law_whole, od__law_whole, .func (PySem.W.fnOf "_law_whole" "_law_whole" (defArgs s__law_whole) (defBody s__law_whole) (defScope s__law_whole) .none kV__law_whole dc__law_whole pm__law_whole an__law_whole cd__law_whole ct__law_whole), sl__law_whole⟩)
    (c__law_whole_ : PySem.W.codeIn K cd__law_whole "_law_whole" = true)
    (k__law_whole : PySem.W.keepIn K (.ref f__law_whole) = true)
    (a__law_read : PySem.W.nsIn K mainGlobals "_law_read" = some (some (.ref f__law_read)))
    (l__law_read : K.lookup f__law_read = some ⟨oc__law_read, od__law_read, .func (PySem.W.fnOf "_law_read" "_law_read" (defArgs s__law_read) (defBody s__law_read) (defScope s__law_read) .none kV__law_read dc__law_read pm__law_read an__law_read cd__law_read ct__law_read), sl__law_read⟩)
    (c__law_read_ : PySem.W.codeIn K cd__law_read "_law_read" = true)
    (k__law_read : PySem.W.keepIn K (.ref f__law_read) = true)
    (a_check_row : PySem.W.nsIn K mainGlobals "check_row" = some (some (.ref f_check_row)))
    (l_check_row : K.lookup f_check_row = some ⟨oc_check_row, od_check_row, .func (PySem.W.fnOf "check_row" "check_row" (defArgs s_check_row) (defBody s_check_row) (defScope s_check_row) .none kV_check_row dc_check_row pm_check_row an_check_row cd_check_row ct_check_row), sl_check_row⟩)
    (c_check_row_ : PySem.W.codeIn K cd_check_row "check_row" = true)
    (k_check_row : PySem.W.keepIn K (.ref f_check_row) = true)
    (a_unsealed : PySem.W.nsIn K mainGlobals "unsealed" = some (some (.ref f_unsealed)))
    (l_unsealed : K.lookup f_unsealed = some ⟨oc_unsealed, od_unsealed, .func (PySem.W.fnOf "unsealed" "unsealed" (defArgs s_unsealed) (defBody s_unsealed) (defScope s_unsealed) .none kV_unsealed dc_unsealed pm_unsealed an_unsealed cd_unsealed ct_unsealed), sl_unsealed⟩)
    (c_unsealed_ : PySem.W.codeIn K cd_unsealed "unsealed" = true)
    (k_unsealed : PySem.W.keepIn K (.ref f_unsealed) = true)
    (a__law_deep : PySem.W.nsIn K mainGlobals "_law_deep" = some (some (.ref f__law_deep)))
    (l__law_deep : K.lookup f__law_deep = some ⟨oc__law_deep, od__law_deep, .func (PySem.W.fnOf "_law_deep" "_law_deep" (defArgs s__law_deep) (defBody s__law_deep) (defScope s__law_deep) .none kV__law_deep dc__law_deep pm__law_deep an__law_deep cd__law_deep ct__law_deep), sl__law_deep⟩)
    (c__law_deep_ : PySem.W.codeIn K cd__law_deep "_law_deep" = true)
    (k__law_deep : PySem.W.keepIn K (.ref f__law_deep) = true)
    (a_law : PySem.W.nsIn K mainGlobals "law" = some (some (.ref f_law)))
    (l_law : K.lookup f_law = some ⟨oc_law, od_law, .func (PySem.W.fnOf "law" "law" (defArgs s_law) (defBody s_law) (defScope s_law) .none kV_law dc_law pm_law an_law cd_law ct_law), sl_law⟩)
    (c_law_ : PySem.W.codeIn K cd_law "law" = true)
    (k_law : PySem.W.keepIn K (.ref f_law) = true)
    : ∃ fd : FuncData, (∀ (s : Shared) (u : Value), BindsTo s fd ⟨[u], []⟩ [("_law_script", u)]) ∧ ∀ base : Heap, K.In base → base.Ns mainGlobals mg → FnOk P w K mg base (L2.CX P w) 12 fa fd ["_law_script"] (spOf K 1 (lawG 63)) := by
  have e := hmg.symm.trans (PySem.W.mg_of KX G a_law)
  cases e
  have D__law_hand : Dfn2 K mg "_law_hand" "_law_hand" s__law_hand ["_law_script"] := dfn_mk KX G a__law_hand l__law_hand c__law_hand_ k__law_hand fun _ _ _ _ _ _ us hl => match us, hl with | [_], _ => rfl
  have D__law_draw : Dfn2 K mg "_law_draw" "_law_draw" s__law_draw ["_law_hand_here", "_law_many"] := dfn_mk KX G a__law_draw l__law_draw c__law_draw_ k__law_draw fun _ _ _ _ _ _ us hl => match us, hl with | [_, _], _ => rfl
  have D__law_mark : Dfn2 K mg "_law_mark" "_law_mark" s__law_mark ["_law_row"] := dfn_mk KX G a__law_mark l__law_mark c__law_mark_ k__law_mark fun _ _ _ _ _ _ us hl => match us, hl with | [_], _ => rfl
  have D__law_seal : Dfn2 K mg "_law_seal" "_law_seal" s__law_seal ["_law_row"] := dfn_mk KX G a__law_seal l__law_seal c__law_seal_ k__law_seal fun _ _ _ _ _ _ us hl => match us, hl with | [_], _ => rfl
  have D__law_bent_row : Dfn2 K mg "_law_bent_row" "_law_bent_row" s__law_bent_row ["_law_hand_here", "_law_row"] := dfn_mk KX G a__law_bent_row l__law_bent_row c__law_bent_row_ k__law_bent_row fun _ _ _ _ _ _ us hl => match us, hl with | [_, _], _ => rfl
  have D_all_spots : Dfn2 K mg "all_spots" "all_spots" s_all_spots ["rows"] := dfn_mk KX G a_all_spots l_all_spots c_all_spots_ k_all_spots fun _ _ _ _ _ _ us hl => match us, hl with | [_], _ => rfl
  have D_all_ties : Dfn2 K mg "all_ties" "all_ties" s_all_ties ["spots"] := dfn_mk KX G a_all_ties l_all_ties c_all_ties_ k_all_ties fun _ _ _ _ _ _ us hl => match us, hl with | [_], _ => rfl
  have D_spots_of : Dfn2 K mg "spots_of" "spots_of" s_spots_of ["rows", "spots", "sign"] := dfn_mk KX G a_spots_of l_spots_of c_spots_of_ k_spots_of fun _ _ _ _ _ _ us hl => match us, hl with | [_, _, _], _ => rfl
  have D_is_sized : Dfn2 K mg "is_sized" "is_sized" s_is_sized ["thing", "least", "most"] := dfn_mk KX G a_is_sized l_is_sized c_is_sized_ k_is_sized fun _ _ _ _ _ _ us hl => match us, hl with | [_, _, _], _ => rfl
  have D_is_row_floors : Dfn2 K mg "is_row_floors" "is_row" s_is_row_floors ["thing"] := dfn_mk KX G a_is_row_floors l_is_row_floors c_is_row_floors_ k_is_row_floors fun _ _ _ _ _ _ us hl => match us, hl with | [_], _ => rfl
  have D_Floor_init : DfnI K mg "Floor" c_Floor "Floor.__init__" s_Floor_init ["self", "rows"] := dfnI_mk KX G aC_Floor mC_Floor kC_Floor a_Floor_init i_Floor_init_ l_Floor_init c_Floor_init_ k_Floor_init fun _ _ _ _ _ _ us hl => match us, hl with | [_, _], _ => rfl
  have D__law_floor : Dfn2 K mg "_law_floor" "_law_floor" s__law_floor ["_law_hand_here"] := dfn_mk KX G a__law_floor l__law_floor c__law_floor_ k__law_floor fun _ _ _ _ _ _ us hl => match us, hl with | [_], _ => rfl
  have D__law_match : Dfn2 K mg "_law_match" "_law_match" s__law_match ["_law_hand_here"] := dfn_mk KX G a__law_match l__law_match c__law_match_ k__law_match fun _ _ _ _ _ _ us hl => match us, hl with | [_], _ => rfl
  have D_homes : Dfn2 K mg "homes" "homes" s_homes ["floor"] := dfn_mk KX G a_homes l_homes c_homes_ k_homes fun _ _ _ _ _ _ us hl => match us, hl with | [_], _ => rfl
  have D__law_wide : Dfn2 K mg "_law_wide" "_law_wide" s__law_wide ["_law_number"] := dfn_mk KX G a__law_wide l__law_wide c__law_wide_ k__law_wide fun _ _ _ _ _ _ us hl => match us, hl with | [_], _ => rfl
  have D__law_entry_row : Dfn2 K mg "_law_entry_row" "_law_entry_row" s__law_entry_row ["_law_entry"] := dfn_mk KX G a__law_entry_row l__law_entry_row c__law_entry_row_ k__law_entry_row fun _ _ _ _ _ _ us hl => match us, hl with | [_], _ => rfl
  have D__law_letter_row : Dfn2 K mg "_law_letter_row" "_law_letter_row" s__law_letter_row ["_law_match_here", "_law_letter"] := dfn_mk KX G a__law_letter_row l__law_letter_row c__law_letter_row_ k__law_letter_row fun _ _ _ _ _ _ us hl => match us, hl with | [_, _], _ => rfl
  have D__law_is : Dfn2 K mg "_law_is" "_law_is" s__law_is ["_law_told", "_law_due"] := dfn_mk KX G a__law_is l__law_is c__law_is_ k__law_is fun _ _ _ _ _ _ us hl => match us, hl with | [_, _], _ => rfl
  have D_is_integer : Dfn2 K mg "is_integer" "is_integer" s_is_integer ["thing"] := dfn_mk KX G a_is_integer l_is_integer c_is_integer_ k_is_integer fun _ _ _ _ _ _ us hl => match us, hl with | [_], _ => rfl
  have D_is_within : Dfn2 K mg "is_within" "is_within" s_is_within ["thing", "least", "most"] := dfn_mk KX G a_is_within l_is_within c_is_within_ k_is_within fun _ _ _ _ _ _ us hl => match us, hl with | [_, _, _], _ => rfl
  have D_check_within : Dfn2 K mg "check_within" "check_within" s_check_within ["thing", "least", "most"] := dfn_mk KX G a_check_within l_check_within c_check_within_ k_check_within fun _ _ _ _ _ _ us hl => match us, hl with | [_, _, _], _ => rfl
  have D_check_match : Dfn2 K mg "check_match" "check_match" s_check_match ["match"] := dfn_mk KX G a_check_match l_check_match c_check_match_ k_check_match fun _ _ _ _ _ _ us hl => match us, hl with | [_], _ => rfl
  have D_is_below : Dfn2 K mg "is_below" "is_below" s_is_below ["thing", "many"] := dfn_mk KX G a_is_below l_is_below c_is_below_ k_is_below fun _ _ _ _ _ _ us hl => match us, hl with | [_, _], _ => rfl
  have D_is_row_rows : Dfn2 K mg "is_row_rows" "is_row" s_is_row_rows ["thing"] := dfn_mk KX G a_is_row_rows l_is_row_rows c_is_row_rows_ k_is_row_rows fun _ _ _ _ _ _ us hl => match us, hl with | [_], _ => rfl
  have D_marked : Dfn2 K mg "marked" "marked" s_marked ["mark", "row"] := dfn_mk KX G a_marked l_marked c_marked_ k_marked fun _ _ _ _ _ _ us hl => match us, hl with | [_, _], _ => rfl
  have D_mark_of : Dfn2 K mg "mark_of" "mark_of" s_mark_of ["row"] := dfn_mk KX G a_mark_of l_mark_of c_mark_of_ k_mark_of fun _ _ _ _ _ _ us hl => match us, hl with | [_], _ => rfl
  have D_seal_of : Dfn2 K mg "seal_of" "seal_of" s_seal_of ["row"] := dfn_mk KX G a_seal_of l_seal_of c_seal_of_ k_seal_of fun _ _ _ _ _ _ us hl => match us, hl with | [_], _ => rfl
  have D_without_seal : Dfn2 K mg "without_seal" "without_seal" s_without_seal ["row"] := dfn_mk KX G a_without_seal l_without_seal c_without_seal_ k_without_seal fun _ _ _ _ _ _ us hl => match us, hl with | [_], _ => rfl
  have D_Reader_init : DfnI K mg "Reader" c_Reader "Reader.__init__" s_Reader_init ["self", "row", "at"] := dfnI_mk KX G aC_Reader mC_Reader kC_Reader a_Reader_init i_Reader_init_ l_Reader_init c_Reader_init_ k_Reader_init fun _ _ _ _ _ _ us hl => match us, hl with | [_, _, _], _ => rfl
  have D_Reader_next_byte : DfnM K c_Reader "next_byte" "Reader.next_byte" s_Reader_next_byte ["self"] := dfnM_mk ⟨pg_Reader, hd_Reader, po_Reader, sa_Reader⟩ a_Reader_next_byte i_Reader_next_byte_ l_Reader_next_byte c_Reader_next_byte_ k_Reader_next_byte fun _ _ _ _ _ _ us hl => match us, hl with | [_], _ => rfl
  have D_Reader_finish : DfnM K c_Reader "finish" "Reader.finish" s_Reader_finish ["self"] := dfnM_mk ⟨pg_Reader, hd_Reader, po_Reader, sa_Reader⟩ a_Reader_finish i_Reader_finish_ l_Reader_finish c_Reader_finish_ k_Reader_finish fun _ _ _ _ _ _ us hl => match us, hl with | [_], _ => rfl
  have D_number_at : Dfn2 K mg "number_at" "number_at" s_number_at ["row", "at"] := dfn_mk KX G a_number_at l_number_at c_number_at_ k_number_at fun _ _ _ _ _ _ us hl => match us, hl with | [_, _], _ => rfl
  have D_taken : Dfn2 K mg "taken" "taken" s_taken ["row", "at"] := dfn_mk KX G a_taken l_taken c_taken_ k_taken fun _ _ _ _ _ _ us hl => match us, hl with | [_, _], _ => rfl
  have D_Reader_next_number : DfnM K c_Reader "next_number" "Reader.next_number" s_Reader_next_number ["self"] := dfnM_mk ⟨pg_Reader, hd_Reader, po_Reader, sa_Reader⟩ a_Reader_next_number i_Reader_next_number_ l_Reader_next_number c_Reader_next_number_ k_Reader_next_number fun _ _ _ _ _ _ us hl => match us, hl with | [_], _ => rfl
  have D_taken_counts : Dfn2 K mg "taken_counts" "taken_counts" s_taken_counts ["many", "reader"] := dfn_mk KX G a_taken_counts l_taken_counts c_taken_counts_ k_taken_counts fun _ _ _ _ _ _ us hl => match us, hl with | [_, _], _ => rfl
  have D_taken_say : Dfn2 K mg "taken_say" "taken_say" s_taken_say ["many", "reader"] := dfn_mk KX G a_taken_say l_taken_say c_taken_say_ k_taken_say fun _ _ _ _ _ _ us hl => match us, hl with | [_, _], _ => rfl
  have D_small_number : Dfn2 K mg "small_number" "small_number" s_small_number ["reader", "most"] := dfn_mk KX G a_small_number l_small_number c_small_number_ k_small_number fun _ _ _ _ _ _ us hl => match us, hl with | [_, _], _ => rfl
  have D_taken_pair : Dfn2 K mg "taken_pair" "taken_pair" s_taken_pair ["reader"] := dfn_mk KX G a_taken_pair l_taken_pair c_taken_pair_ k_taken_pair fun _ _ _ _ _ _ us hl => match us, hl with | [_], _ => rfl
  have D_taken_entry : Dfn2 K mg "taken_entry" "taken_entry" s_taken_entry ["reader"] := dfn_mk KX G a_taken_entry l_taken_entry c_taken_entry_ k_taken_entry fun _ _ _ _ _ _ us hl => match us, hl with | [_], _ => rfl
  have D_taken_tell : Dfn2 K mg "taken_tell" "taken_tell" s_taken_tell ["many", "reader"] := dfn_mk KX G a_taken_tell l_taken_tell c_taken_tell_ k_taken_tell fun _ _ _ _ _ _ us hl => match us, hl with | [_, _], _ => rfl
  have D_taken_letter : Dfn2 K mg "taken_letter" "taken_letter" s_taken_letter ["many", "match", "row"] := dfn_mk KX G a_taken_letter l_taken_letter c_taken_letter_ k_taken_letter fun _ _ _ _ _ _ us hl => match us, hl with | [_, _, _], _ => rfl
  have D_are_counts : Dfn2 K mg "are_counts" "are_counts" s_are_counts ["many", "thing"] := dfn_mk KX G a_are_counts l_are_counts c_are_counts_ k_are_counts fun _ _ _ _ _ _ us hl => match us, hl with | [_, _], _ => rfl
  have D_is_say : Dfn2 K mg "is_say" "is_say" s_is_say ["many", "letter"] := dfn_mk KX G a_is_say l_is_say c_is_say_ k_is_say fun _ _ _ _ _ _ us hl => match us, hl with | [_, _], _ => rfl
  have D_is_pair : Dfn2 K mg "is_pair" "is_pair" s_is_pair ["thing"] := dfn_mk KX G a_is_pair l_is_pair c_is_pair_ k_is_pair fun _ _ _ _ _ _ us hl => match us, hl with | [_], _ => rfl
  have D_are_pairs : Dfn2 K mg "are_pairs" "are_pairs" s_are_pairs ["thing"] := dfn_mk KX G a_are_pairs l_are_pairs c_are_pairs_ k_are_pairs fun _ _ _ _ _ _ us hl => match us, hl with | [_], _ => rfl
  have D_has_form : Dfn2 K mg "has_form" "has_form" s_has_form ["thing"] := dfn_mk KX G a_has_form l_has_form c_has_form_ k_has_form fun _ _ _ _ _ _ us hl => match us, hl with | [_], _ => rfl
  have D_is_small_entry : Dfn2 K mg "is_small_entry" "is_small_entry" s_is_small_entry ["thing"] := dfn_mk KX G a_is_small_entry l_is_small_entry c_is_small_entry_ k_is_small_entry fun _ _ _ _ _ _ us hl => match us, hl with | [_], _ => rfl
  have D_is_tell : Dfn2 K mg "is_tell" "is_tell" s_is_tell ["many", "letter"] := dfn_mk KX G a_is_tell l_is_tell c_is_tell_ k_is_tell fun _ _ _ _ _ _ us hl => match us, hl with | [_, _], _ => rfl
  have D_is_letter : Dfn2 K mg "is_letter" "is_letter" s_is_letter ["many", "thing"] := dfn_mk KX G a_is_letter l_is_letter c_is_letter_ k_is_letter fun _ _ _ _ _ _ us hl => match us, hl with | [_, _], _ => rfl
  have D_letter_of : Dfn2 K mg "letter_of" "letter_of" s_letter_of ["floor", "match", "thing"] := dfn_mk KX G a_letter_of l_letter_of c_letter_of_ k_letter_of fun _ _ _ _ _ _ us hl => match us, hl with | [_, _, _], _ => rfl
  have D_read_letter : Dfn2 K mg "read_letter" "read_letter" s_read_letter ["floor", "match", "thing"] := dfn_mk KX G a_read_letter l_read_letter c_read_letter_ k_read_letter fun _ _ _ _ _ _ us hl => match us, hl with | [_, _, _], _ => rfl
  have D__law_some_letter : Dfn2 K mg "_law_some_letter" "_law_some_letter" s__law_some_letter ["_law_hand_here", "_law_floor_here"] := dfn_mk KX G a__law_some_letter l__law_some_letter c__law_some_letter_ k__law_some_letter fun _ _ _ _ _ _ us hl => match us, hl with | [_, _], _ => rfl
  have D__law_read_wide : Dfn2 K mg "_law_read_wide" "_law_read_wide" s__law_read_wide ["_law_row", "_law_at"] := dfn_mk KX G a__law_read_wide l__law_read_wide c__law_read_wide_ k__law_read_wide fun _ _ _ _ _ _ us hl => match us, hl with | [_, _], _ => rfl
  have D__law_read_wides : Dfn2 K mg "_law_read_wides" "_law_read_wides" s__law_read_wides ["_law_row", "_law_at", "_law_many", "_law_most"] := dfn_mk KX G a__law_read_wides l__law_read_wides c__law_read_wides_ k__law_read_wides fun _ _ _ _ _ _ us hl => match us, hl with | [_, _, _, _], _ => rfl
  have D__law_read_say : Dfn2 K mg "_law_read_say" "_law_read_say" s__law_read_say ["_law_row", "_law_at", "_law_many"] := dfn_mk KX G a__law_read_say l__law_read_say c__law_read_say_ k__law_read_say fun _ _ _ _ _ _ us hl => match us, hl with | [_, _, _], _ => rfl
  have D__law_read_entry : Dfn2 K mg "_law_read_entry" "_law_read_entry" s__law_read_entry ["_law_row", "_law_at"] := dfn_mk KX G a__law_read_entry l__law_read_entry c__law_read_entry_ k__law_read_entry fun _ _ _ _ _ _ us hl => match us, hl with | [_, _], _ => rfl
  have D__law_read_tell : Dfn2 K mg "_law_read_tell" "_law_read_tell" s__law_read_tell ["_law_row", "_law_at", "_law_many"] := dfn_mk KX G a__law_read_tell l__law_read_tell c__law_read_tell_ k__law_read_tell fun _ _ _ _ _ _ us hl => match us, hl with | [_, _, _], _ => rfl
  have D__law_whole : Dfn2 K mg "_law_whole" "_law_whole" s__law_whole ["_law_thing", "_law_least", "_law_most"] := dfn_mk KX G a__law_whole l__law_whole c__law_whole_ k__law_whole fun _ _ _ _ _ _ us hl => match us, hl with | [_, _, _], _ => rfl
  have D__law_read : Dfn2 K mg "_law_read" "_law_read" s__law_read ["_law_many", "_law_match_here", "_law_thing"] := dfn_mk KX G a__law_read l__law_read c__law_read_ k__law_read fun _ _ _ _ _ _ us hl => match us, hl with | [_, _, _], _ => rfl
  have D_check_row : Dfn2 K mg "check_row" "check_row" s_check_row ["thing"] := dfn_mk KX G a_check_row l_check_row c_check_row_ k_check_row fun _ _ _ _ _ _ us hl => match us, hl with | [_], _ => rfl
  have D_unsealed : Dfn2 K mg "unsealed" "unsealed" s_unsealed ["row"] := dfn_mk KX G a_unsealed l_unsealed c_unsealed_ k_unsealed fun _ _ _ _ _ _ us hl => match us, hl with | [_], _ => rfl
  have D__law_deep : Dfn2 K mg "_law_deep" "_law_deep" s__law_deep ["_law_hand_here"] := dfn_mk KX G a__law_deep l__law_deep c__law_deep_ k__law_deep fun _ _ _ _ _ _ us hl => match us, hl with | [_], _ => rfl
  have D_law : Dfn2 K mg "law" "law" s_law ["_law_script"] := dfn_mk KX G a_law l_law c_law_ k_law fun _ _ _ _ _ _ us hl => match us, hl with | [_], _ => rfl
  refine ⟨PySem.W.fnOf "law" "law" (defArgs s_law) (defBody s_law) (defScope s_law) .none kV_law dc_law pm_law an_law cd_law ct_law, fun s u => .of_eq rfl, fun base _ _ => ?_⟩
  have T : Txt P w K mg base c_BadFloor c_NoNumber c_BadRow c_NoRow c_Floor c_Reader := {
    n_len := PySem.W.mg_none_of KX G n_len,
    n_abs := PySem.W.mg_none_of KX G n_abs,
    n_int := PySem.W.mg_none_of KX G n_int,
    n_tuple := PySem.W.mg_none_of KX G n_tuple,
    n_list := PySem.W.mg_none_of KX G n_list,
    n_enumerate := PySem.W.mg_none_of KX G n_enumerate,
    g_WALL := gstr_mk KX G g_WALL,
    n_sorted := PySem.W.mg_none_of KX G n_sorted,
    n_isinstance := PySem.W.mg_none_of KX G n_isinstance,
    n_all := PySem.W.mg_none_of KX G n_all,
    g_FREE := gstr_mk KX G g_FREE,
    g_HOME := gstr_mk KX G g_HOME,
    g_STATION := gstr_mk KX G g_STATION,
    g_MOST_ROWS := gint_mk KX G g_MOST_ROWS,
    n_str := PySem.W.mg_none_of KX G n_str,
    fd_Floor_spots := ⟨⟨pg_Floor, hd_Floor, po_Floor, sa_Floor⟩, no_Floor_spots⟩,
    fd_Floor_stops := ⟨⟨pg_Floor, hd_Floor, po_Floor, sa_Floor⟩, no_Floor_stops⟩,
    fd_Floor_rests := ⟨⟨pg_Floor, hd_Floor, po_Floor, sa_Floor⟩, no_Floor_rests⟩,
    fd_Floor_ties := ⟨⟨pg_Floor, hd_Floor, po_Floor, sa_Floor⟩, no_Floor_ties⟩,
    fd_Floor_rows := ⟨⟨pg_Floor, hd_Floor, po_Floor, sa_Floor⟩, no_Floor_rows⟩,
    n_sum := PySem.W.mg_none_of KX G n_sum,
    g_MOST_HOMES := gint_mk KX G g_MOST_HOMES,
    x_BadFloor := exc1_mk KX G aE_BadFloor xL_BadFloor bR_BadFloor sa_BadFloor ga_BadFloor gg_BadFloor no_BadFloor iC_BadFloor tI_BadFloor lI_BadFloor cI_BadFloor kI_BadFloor kE_BadFloor bE_BadFloor tE_BadFloor hE_BadFloor ⟨rfl, rfl, rfl, by decide +kernel, rfl, by decide +kernel, by decide +kernel⟩ rfl (by first | exact Or.inl rfl | exact Or.inr (Or.inl rfl) | exact Or.inr (Or.inr rfl)) (by first | exact Or.inl rfl | exact Or.inr (Or.inl rfl) | exact Or.inr (Or.inr rfl)) (by decide) (by decide) fun _ _ _ _ _ _ us hl => match us, hl with | [_, _], _ => rfl,
    n_bool := PySem.W.mg_none_of KX G n_bool,
    n_zip := PySem.W.mg_none_of KX G n_zip,
    x_NoNumber := exc0_mk KX G aE_NoNumber xE_NoNumber kE_NoNumber bE_NoNumber tE_NoNumber,
    g_MOST_MATCH := gint_mk KX G g_MOST_MATCH,
    g_BYTE := gint_mk KX G g_BYTE,
    g_MOST_BYTES := gint_mk KX G g_MOST_BYTES,
    g_MARK_STEP := gint_mk KX G g_MARK_STEP,
    g_MARK_PRIME := gint_mk KX G g_MARK_PRIME,
    g_MARK_BEGIN := gint_mk KX G g_MARK_BEGIN,
    gt_SEAL_WORTHS := gtup_mk KX G ga_SEAL_WORTHS gl_SEAL_WORTHS rfl (Nat.le_of_ble_eq_true rfl) (.cons ⟨_, rfl⟩ (.cons ⟨_, rfl⟩ (.cons ⟨_, rfl⟩ (.cons ⟨_, rfl⟩ (.nil))))),
    g_SEAL_BOUND := gint_mk KX G g_SEAL_BOUND,
    g_SEAL_BYTES := gint_mk KX G g_SEAL_BYTES,
    fd_Reader_last := ⟨⟨pg_Reader, hd_Reader, po_Reader, sa_Reader⟩, no_Reader_last⟩,
    fd_Reader_at := ⟨⟨pg_Reader, hd_Reader, po_Reader, sa_Reader⟩, no_Reader_at⟩,
    fd_Reader_row := ⟨⟨pg_Reader, hd_Reader, po_Reader, sa_Reader⟩, no_Reader_row⟩,
    x_BadRow := exc1_mk KX G aE_BadRow xL_BadRow bR_BadRow sa_BadRow ga_BadRow gg_BadRow no_BadRow iC_BadRow tI_BadRow lI_BadRow cI_BadRow kI_BadRow kE_BadRow bE_BadRow tE_BadRow hE_BadRow ⟨rfl, rfl, rfl, by decide +kernel, rfl, by decide +kernel, by decide +kernel⟩ rfl (by first | exact Or.inl rfl | exact Or.inr (Or.inl rfl) | exact Or.inr (Or.inr rfl)) (by first | exact Or.inl rfl | exact Or.inr (Or.inl rfl) | exact Or.inr (Or.inr rfl)) (by decide) (by decide) fun _ _ _ _ _ _ us hl => match us, hl with | [_, _], _ => rfl,
    n_range := PySem.W.mg_none_of KX G n_range,
    n_min := PySem.W.mg_none_of KX G n_min,
    g_MOST_FIGURES := gint_mk KX G g_MOST_FIGURES,
    g_FIGURE := gint_mk KX G g_FIGURE,
    g_WHOLE_BOUND := gint_mk KX G g_WHOLE_BOUND,
    g_SAY := gstr_mk KX G g_SAY,
    g_MOST_NUMBER := gint_mk KX G g_MOST_NUMBER,
    g_ORDERS := gstr_mk KX G g_ORDERS,
    g_MOST_ORDERS_AT_ONCE := gint_mk KX G g_MOST_ORDERS_AT_ONCE,
    gt_WORDS := gtup_mk KX G ga_WORDS gl_WORDS rfl (Nat.le_of_ble_eq_true rfl) (.cons ⟨_, rfl⟩ (.cons ⟨_, rfl⟩ (.cons ⟨_, rfl⟩ (.nil)))),
    g_TELL := gstr_mk KX G g_TELL,
    gt_KINDS := gtup_mk KX G ga_KINDS gl_KINDS rfl (Nat.le_of_ble_eq_true rfl) (.cons ⟨_, rfl⟩ (.cons ⟨_, rfl⟩ (.nil))),
    g_MOST_COUNT := gint_mk KX G g_MOST_COUNT,
    n_max := PySem.W.mg_none_of KX G n_max,
    g_MOST_TOLD := gint_mk KX G g_MOST_TOLD,
    x_NoRow := exc0_mk KX G aE_NoRow xE_NoRow kE_NoRow bE_NoRow tE_NoRow,
    m_BadFloor_BadRow := m_BadFloor_BadRow,
    m_NoNumber_BadRow := m_NoNumber_BadRow,
    m_BadRow_BadRow := m_BadRow_BadRow,
    m_NoRow_BadRow := m_NoRow_BadRow }
  have C__law_hand := ok__law_hand (P := P) (w := w) (base := base) T D__law_hand 
  have C__law_draw := ok__law_draw (P := P) (w := w) (base := base) T D__law_draw 
  have C__law_mark := ok__law_mark (P := P) (w := w) (base := base) T D__law_mark 
  have C__law_seal := ok__law_seal (P := P) (w := w) (base := base) T D__law_seal C__law_mark
  have C__law_bent_row := ok__law_bent_row (P := P) (w := w) (base := base) T D__law_bent_row C__law_draw C__law_seal
  have C_all_spots := ok_all_spots (P := P) (w := w) (base := base) T D_all_spots 
  have C_all_ties := ok_all_ties (P := P) (w := w) (base := base) T D_all_ties 
  have C_spots_of := ok_spots_of (P := P) (w := w) (base := base) T D_spots_of 
  have C_is_sized := ok_is_sized (P := P) (w := w) (base := base) T D_is_sized 
  have C_is_row_floors := ok_is_row_floors (P := P) (w := w) (base := base) T D_is_row_floors 
  have C_Floor_init := ok_Floor_init (P := P) (w := w) (base := base) T D_Floor_init C_spots_of C_all_ties C_all_spots C_is_row_floors C_is_sized
  have C__law_floor := ok__law_floor (P := P) (w := w) (base := base) T D__law_floor C_Floor_init C__law_draw
  have C__law_match := ok__law_match (P := P) (w := w) (base := base) T D__law_match C__law_draw
  have C_homes := ok_homes (P := P) (w := w) (base := base) T D_homes 
  have C__law_wide := ok__law_wide (P := P) (w := w) (base := base) T D__law_wide 
  have C__law_entry_row := ok__law_entry_row (P := P) (w := w) (base := base) T D__law_entry_row C__law_wide
  have C__law_letter_row := ok__law_letter_row (P := P) (w := w) (base := base) T D__law_letter_row C__law_seal C__law_entry_row C__law_wide
  have C__law_is := ok__law_is (P := P) (w := w) (base := base) T D__law_is  6
  have C_is_integer := ok_is_integer (P := P) (w := w) (base := base) T D_is_integer 
  have C_is_within := ok_is_within (P := P) (w := w) (base := base) T D_is_within C_is_integer
  have C_check_within := ok_check_within (P := P) (w := w) (base := base) T D_check_within C_is_within
  have C_check_match := ok_check_match (P := P) (w := w) (base := base) T D_check_match C_check_within
  have C_is_below := ok_is_below (P := P) (w := w) (base := base) T D_is_below C_is_within
  have C_is_row_rows := ok_is_row_rows (P := P) (w := w) (base := base) T D_is_row_rows C_is_below
  have C_marked := ok_marked (P := P) (w := w) (base := base) T D_marked 
  have C_mark_of := ok_mark_of (P := P) (w := w) (base := base) T D_mark_of C_marked
  have C_seal_of := ok_seal_of (P := P) (w := w) (base := base) T D_seal_of C_mark_of
  have C_without_seal := ok_without_seal (P := P) (w := w) (base := base) T D_without_seal C_seal_of
  have C_Reader_init := ok_Reader_init (P := P) (w := w) (base := base) T D_Reader_init 
  have C_Reader_next_byte := ok_Reader_next_byte (P := P) (w := w) (base := base) T D_Reader_next_byte 
  have C_Reader_finish := ok_Reader_finish (P := P) (w := w) (base := base) T D_Reader_finish 
  have C_number_at := ok_number_at (P := P) (w := w) (base := base) T D_number_at 
  have C_taken := ok_taken (P := P) (w := w) (base := base) T D_taken C_number_at
  have C_Reader_next_number := ok_Reader_next_number (P := P) (w := w) (base := base) T D_Reader_next_number C_taken
  have C_taken_counts := ok_taken_counts (P := P) (w := w) (base := base) T D_taken_counts C_Reader_next_number
  have C_taken_say := ok_taken_say (P := P) (w := w) (base := base) T D_taken_say C_taken_counts C_Reader_next_number
  have C_small_number := ok_small_number (P := P) (w := w) (base := base) T D_small_number C_Reader_next_number
  have C_taken_pair := ok_taken_pair (P := P) (w := w) (base := base) T D_taken_pair C_small_number
  have C_taken_entry := ok_taken_entry (P := P) (w := w) (base := base) T D_taken_entry C_taken_pair C_small_number C_Reader_next_byte
  have C_taken_tell := ok_taken_tell (P := P) (w := w) (base := base) T D_taken_tell C_taken_entry C_Reader_next_number C_taken_counts
  have C_taken_letter := ok_taken_letter (P := P) (w := w) (base := base) T D_taken_letter C_Reader_finish C_taken_say C_taken_tell C_Reader_next_number C_Reader_next_byte C_Reader_init
  have C_are_counts := ok_are_counts (P := P) (w := w) (base := base) T D_are_counts C_is_below C_is_sized
  have C_is_say := ok_is_say (P := P) (w := w) (base := base) T D_is_say C_are_counts C_is_below
  have C_is_pair := ok_is_pair (P := P) (w := w) (base := base) T D_is_pair C_is_sized
  have C_are_pairs := ok_are_pairs (P := P) (w := w) (base := base) T D_are_pairs C_is_below C_is_pair C_is_sized
  have C_has_form := ok_has_form (P := P) (w := w) (base := base) T D_has_form C_are_pairs C_is_below C_is_sized
  have C_is_small_entry := ok_is_small_entry (P := P) (w := w) (base := base) T D_is_small_entry C_has_form
  have C_is_tell := ok_is_tell (P := P) (w := w) (base := base) T D_is_tell C_is_small_entry C_is_sized C_is_below C_are_counts
  have C_is_letter := ok_is_letter (P := P) (w := w) (base := base) T D_is_letter C_is_tell C_is_say
  have C_letter_of := ok_letter_of (P := P) (w := w) (base := base) T D_letter_of C_is_letter C_taken_letter C_homes C_is_row_rows C_without_seal
  have C_read_letter := ok_read_letter (P := P) (w := w) (base := base) T D_read_letter C_letter_of C_check_match
  have C__law_some_letter := ok__law_some_letter (P := P) (w := w) (base := base) T D__law_some_letter C__law_draw C_homes
  have C__law_read_wide := ok__law_read_wide (P := P) (w := w) (base := base) T D__law_read_wide 
  have C__law_read_wides := ok__law_read_wides (P := P) (w := w) (base := base) T D__law_read_wides C__law_read_wide
  have C__law_read_say := ok__law_read_say (P := P) (w := w) (base := base) T D__law_read_say C__law_read_wides
  have C__law_read_entry := ok__law_read_entry (P := P) (w := w) (base := base) T D__law_read_entry C__law_read_wides C__law_read_wide
  have C__law_read_tell := ok__law_read_tell (P := P) (w := w) (base := base) T D__law_read_tell C__law_read_entry C__law_read_wides
  have C__law_whole := ok__law_whole (P := P) (w := w) (base := base) T D__law_whole 
  have C__law_read := ok__law_read (P := P) (w := w) (base := base) T D__law_read C__law_read_say C__law_read_tell C__law_read_wide C__law_seal C__law_whole
  have C_check_row := ok_check_row (P := P) (w := w) (base := base) T D_check_row C_is_row_rows
  have C_unsealed := ok_unsealed (P := P) (w := w) (base := base) T D_unsealed C_without_seal C_check_row
  have C__law_deep := ok__law_deep (P := P) (w := w) (base := base) T D__law_deep C__law_draw
  exact ok_law T (fun_mk l_law c_law_ k_law) C_read_letter C__law_deep C__law_draw C__law_is C_unsealed C__law_seal C__law_read C__law_wide C__law_bent_row C__law_letter_row C__law_some_letter C_homes C__law_match C__law_floor C__law_hand
end Lw
open PySem PySem.W PyProof.Rows
set_option maxRecDepth 100000 in
set_option maxHeartbeats 0 in
theorem PySem.Challenge.cw_allbrought_k32_whole_rows_of_letters_jud_holds : PySem.Challenge.rw_allbrought_k32_whole_rows_of_letters_jud.Holds := by
  w_on; o_law; k_head; (case hw => w_witness2)
  k_fill
  refine Dn.walk_ofX (l := PySem.Challenge.rw_allbrought_k32_whole_rows_of_letters_jud) (n := 63) (k := 12) (x := "_law_script") rfl (by decide) rfl ⟨rfl, by decide, by decide⟩ (fun w h Y => PySem.W.kIn_of Y) ?F
  case F =>
    intro w mg fa h KX G hX hmg
    refine' Lw.all_mk KX G hmg ?n_len ?n_abs ?n_int ?n_tuple ?n_list ?n_enumerate ?g_WALL ?n_sorted ?n_isinstance ?n_all ?g_FREE ?g_HOME ?g_STATION ?g_MOST_ROWS ?n_str ?n_sum ?g_MOST_HOMES ?aE_BadFloor ?xL_BadFloor ?bR_BadFloor ?sa_BadFloor ?ga_BadFloor ?gg_BadFloor ?no_BadFloor ?iC_BadFloor ?tI_BadFloor ?lI_BadFloor ?cI_BadFloor ?kI_BadFloor ?kE_BadFloor ?bE_BadFloor ?tE_BadFloor ?hE_BadFloor ?n_bool ?n_zip ?aE_NoNumber ?xE_NoNumber ?kE_NoNumber ?bE_NoNumber ?tE_NoNumber ?g_MOST_MATCH ?g_BYTE ?g_MOST_BYTES ?g_MARK_STEP ?g_MARK_PRIME ?g_MARK_BEGIN ?g_SEAL_BOUND ?g_SEAL_BYTES ?aE_BadRow ?xL_BadRow ?bR_BadRow ?sa_BadRow ?ga_BadRow ?gg_BadRow ?no_BadRow ?iC_BadRow ?tI_BadRow ?lI_BadRow ?cI_BadRow ?kI_BadRow ?kE_BadRow ?bE_BadRow ?tE_BadRow ?hE_BadRow ?n_range ?n_min ?g_MOST_FIGURES ?g_FIGURE ?g_WHOLE_BOUND ?g_SAY ?g_MOST_NUMBER ?g_ORDERS ?g_MOST_ORDERS_AT_ONCE ?g_TELL ?g_MOST_COUNT ?n_max ?g_MOST_TOLD ?aE_NoRow ?xE_NoRow ?kE_NoRow ?bE_NoRow ?tE_NoRow ?ga_SEAL_WORTHS ?gl_SEAL_WORTHS ?ga_WORDS ?gl_WORDS ?ga_KINDS ?gl_KINDS ?aC_Floor ?mC_Floor ?kC_Floor ?pg_Floor ?hd_Floor ?po_Floor ?sa_Floor ?aC_Reader ?mC_Reader ?kC_Reader ?pg_Reader ?hd_Reader ?po_Reader ?sa_Reader ?no_Floor_spots ?no_Floor_stops ?no_Floor_rests ?no_Floor_ties ?no_Floor_rows ?no_Reader_last ?no_Reader_at ?no_Reader_row ?m_BadFloor_BadRow ?m_NoNumber_BadRow ?m_BadRow_BadRow ?m_NoRow_BadRow ?a__law_hand ?l__law_hand ?c__law_hand_ ?k__law_hand ?a__law_draw ?l__law_draw ?c__law_draw_ ?k__law_draw ?a__law_mark ?l__law_mark ?c__law_mark_ ?k__law_mark ?a__law_seal ?l__law_seal ?c__law_seal_ ?k__law_seal ?a__law_bent_row ?l__law_bent_row ?c__law_bent_row_ ?k__law_bent_row ?a_all_spots ?l_all_spots ?c_all_spots_ ?k_all_spots ?a_all_ties ?l_all_ties ?c_all_ties_ ?k_all_ties ?a_spots_of ?l_spots_of ?c_spots_of_ ?k_spots_of ?a_is_sized ?l_is_sized ?c_is_sized_ ?k_is_sized ?a_is_row_floors ?l_is_row_floors ?c_is_row_floors_ ?k_is_row_floors ?a_Floor_init ?i_Floor_init_ ?l_Floor_init ?c_Floor_init_ ?k_Floor_init ?a__law_floor ?l__law_floor ?c__law_floor_ ?k__law_floor ?a__law_match ?l__law_match ?c__law_match_ ?k__law_match ?a_homes ?l_homes ?c_homes_ ?k_homes ?a__law_wide ?l__law_wide ?c__law_wide_ ?k__law_wide ?a__law_entry_row ?l__law_entry_row ?c__law_entry_row_ ?k__law_entry_row ?a__law_letter_row ?l__law_letter_row ?c__law_letter_row_ ?k__law_letter_row ?a__law_is ?l__law_is ?c__law_is_ ?k__law_is ?a_is_integer ?l_is_integer ?c_is_integer_ ?k_is_integer ?a_is_within ?l_is_within ?c_is_within_ ?k_is_within ?a_check_within ?l_check_within ?c_check_within_ ?k_check_within ?a_check_match ?l_check_match ?c_check_match_ ?k_check_match ?a_is_below ?l_is_below ?c_is_below_ ?k_is_below ?a_is_row_rows ?l_is_row_rows ?c_is_row_rows_ ?k_is_row_rows ?a_marked ?l_marked ?c_marked_ ?k_marked ?a_mark_of ?l_mark_of ?c_mark_of_ ?k_mark_of ?a_seal_of ?l_seal_of ?c_seal_of_ ?k_seal_of ?a_without_seal ?l_without_seal ?c_without_seal_ ?k_without_seal ?a_Reader_init ?i_Reader_init_ ?l_Reader_init ?c_Reader_init_ ?k_Reader_init ?a_Reader_next_byte ?i_Reader_next_byte_ ?l_Reader_next_byte ?c_Reader_next_byte_ ?k_Reader_next_byte ?a_Reader_finish ?i_Reader_finish_ ?l_Reader_finish ?c_Reader_finish_ ?k_Reader_finish ?a_number_at ?l_number_at ?c_number_at_ ?k_number_at ?a_taken ?l_taken ?c_taken_ ?k_taken ?a_Reader_next_number ?i_Reader_next_number_ ?l_Reader_next_number ?c_Reader_next_number_ ?k_Reader_next_number ?a_taken_counts ?l_taken_counts ?c_taken_counts_ ?k_taken_counts ?a_taken_say ?l_taken_say ?c_taken_say_ ?k_taken_say ?a_small_number ?l_small_number ?c_small_number_ ?k_small_number ?a_taken_pair ?l_taken_pair ?c_taken_pair_ ?k_taken_pair ?a_taken_entry ?l_taken_entry ?c_taken_entry_ ?k_taken_entry ?a_taken_tell ?l_taken_tell ?c_taken_tell_ ?k_taken_tell ?a_taken_letter ?l_taken_letter ?c_taken_letter_ ?k_taken_letter ?a_are_counts ?l_are_counts ?c_are_counts_ ?k_are_counts ?a_is_say ?l_is_say ?c_is_say_ ?k_is_say ?a_is_pair ?l_is_pair ?c_is_pair_ ?k_is_pair ?a_are_pairs ?l_are_pairs ?c_are_pairs_ ?k_are_pairs ?a_has_form ?l_has_form ?c_has_form_ ?k_has_form ?a_is_small_entry ?l_is_small_entry ?c_is_small_entry_ ?k_is_small_entry ?a_is_tell ?l_is_tell ?c_is_tell_ ?k_is_tell ?a_is_letter ?l_is_letter ?c_is_letter_ ?k_is_letter ?a_letter_of ?l_letter_of ?c_letter_of_ ?k_letter_of ?a_read_letter ?l_read_letter ?c_read_letter_ ?k_read_letter ?a__law_some_letter ?l__law_some_letter ?c__law_some_letter_ ?k__law_some_letter ?a__law_read_wide ?l__law_read_wide ?c__law_read_wide_ ?k__law_read_wide ?a__law_read_wides ?l__law_read_wides ?c__law_read_wides_ ?k__law_read_wides ?a__law_read_say ?l__law_read_say ?c__law_read_say_ ?k__law_read_say ?a__law_read_entry ?l__law_read_entry ?c__law_read_entry_ ?k__law_read_entry ?a__law_read_tell ?l__law_read_tell ?c__law_read_tell_ ?k__law_read_tell ?a__law_whole ?l__law_whole ?c__law_whole_ ?k__law_whole ?a__law_read ?l__law_read ?c__law_read_ ?k__law_read ?a_check_row ?l_check_row ?c_check_row_ ?k_check_row ?a_unsealed ?l_unsealed ?c_unsealed_ ?k_unsealed ?a__law_deep ?l__law_deep ?c__law_deep_ ?k__law_deep ?a_law ?l_law ?c_law_ ?k_law
    (case n_len => k_is)
    (case n_abs => k_is)
    (case n_int => k_is)
    (case n_tuple => k_is)
    (case n_list => k_is)
    (case n_enumerate => k_is)
    (case g_WALL => k_is)
    (case n_sorted => k_is)
    (case n_isinstance => k_is)
    (case n_all => k_is)
    (case g_FREE => k_is)
    (case g_HOME => k_is)
    (case g_STATION => k_is)
    (case g_MOST_ROWS => k_is)
    (case n_str => k_is)
    (case n_sum => k_is)
    (case g_MOST_HOMES => k_is)
    (case aE_BadFloor => k_is)
    (case xL_BadFloor => k_is)
    (case bR_BadFloor => first | rfl | decide +kernel | k_is)
    (case sa_BadFloor => k_is)
    (case ga_BadFloor => k_is)
    (case gg_BadFloor => k_is)
    (case no_BadFloor => k_is)
    (case iC_BadFloor => k_is)
    (case tI_BadFloor => k_is)
    (case lI_BadFloor => k_is)
    (case cI_BadFloor => k_is)
    (case kI_BadFloor => k_is)
    (case kE_BadFloor => k_is)
    (case bE_BadFloor => k_is)
    (case tE_BadFloor => k_is)
    (case hE_BadFloor => k_is)
    (case n_bool => k_is)
    (case n_zip => k_is)
    (case aE_NoNumber => k_is)
    (case xE_NoNumber => first | k_exc | k_is)
    (case kE_NoNumber => k_is)
    (case bE_NoNumber => k_is)
    (case tE_NoNumber => k_is)
    (case g_MOST_MATCH => k_is)
    (case g_BYTE => k_is)
    (case g_MOST_BYTES => k_is)
    (case g_MARK_STEP => k_is)
    (case g_MARK_PRIME => k_is)
    (case g_MARK_BEGIN => k_is)
    (case g_SEAL_BOUND => k_is)
    (case g_SEAL_BYTES => k_is)
    (case aE_BadRow => k_is)
    (case xL_BadRow => k_is)
    (case bR_BadRow => first | rfl | decide +kernel | k_is)
    (case sa_BadRow => k_is)
    (case ga_BadRow => k_is)
    (case gg_BadRow => k_is)
    (case no_BadRow => k_is)
    (case iC_BadRow => k_is)
    (case tI_BadRow => k_is)
    (case lI_BadRow => k_is)
    (case cI_BadRow => k_is)
    (case kI_BadRow => k_is)
    (case kE_BadRow => k_is)
    (case bE_BadRow => k_is)
    (case tE_BadRow => k_is)
    (case hE_BadRow => k_is)
    (case n_range => k_is)
    (case n_min => k_is)
    (case g_MOST_FIGURES => k_is)
    (case g_FIGURE => k_is)
    (case g_WHOLE_BOUND => k_is)
    (case g_SAY => k_is)
    (case g_MOST_NUMBER => k_is)
    (case g_ORDERS => k_is)
    (case g_MOST_ORDERS_AT_ONCE => k_is)
    (case g_TELL => k_is)
    (case g_MOST_COUNT => k_is)
    (case n_max => k_is)
    (case g_MOST_TOLD => k_is)
    (case aE_NoRow => k_is)
    (case xE_NoRow => first | k_exc | k_is)
    (case kE_NoRow => k_is)
    (case bE_NoRow => k_is)
    (case tE_NoRow => k_is)
    (case ga_SEAL_WORTHS => k_is)
    (case gl_SEAL_WORTHS => k_is)
    (case ga_WORDS => k_is)
    (case gl_WORDS => k_is)
    (case ga_KINDS => k_is)
    (case gl_KINDS => k_is)
    (case aC_Floor => k_is)
    (case mC_Floor => k_is)
    (case kC_Floor => k_is)
    (case pg_Floor => k_is)
    (case hd_Floor => k_is)
    (case po_Floor => k_is)
    (case sa_Floor => k_is)
    (case aC_Reader => k_is)
    (case mC_Reader => k_is)
    (case kC_Reader => k_is)
    (case pg_Reader => k_is)
    (case hd_Reader => k_is)
    (case po_Reader => k_is)
    (case sa_Reader => k_is)
    (case no_Floor_spots => k_is)
    (case no_Floor_stops => k_is)
    (case no_Floor_rests => k_is)
    (case no_Floor_ties => k_is)
    (case no_Floor_rows => k_is)
    (case no_Reader_last => k_is)
    (case no_Reader_at => k_is)
    (case no_Reader_row => k_is)
    (case m_BadFloor_BadRow => first | rfl | k_is)
    (case m_NoNumber_BadRow => first | rfl | k_is)
    (case m_BadRow_BadRow => first | rfl | k_is)
    (case m_NoRow_BadRow => first | rfl | k_is)
    (case a__law_hand => k_is)
    (case l__law_hand => k_is)
    (case c__law_hand_ => k_is)
    (case k__law_hand => k_is)
    (case a__law_draw => k_is)
    (case l__law_draw => k_is)
    (case c__law_draw_ => k_is)
    (case k__law_draw => k_is)
    (case a__law_mark => k_is)
    (case l__law_mark => k_is)
    (case c__law_mark_ => k_is)
    (case k__law_mark => k_is)
    (case a__law_seal => k_is)
    (case l__law_seal => k_is)
    (case c__law_seal_ => k_is)
    (case k__law_seal => k_is)
    (case a__law_bent_row => k_is)
    (case l__law_bent_row => k_is)
    (case c__law_bent_row_ => k_is)
    (case k__law_bent_row => k_is)
    (case a_all_spots => k_is)
    (case l_all_spots => k_is)
    (case c_all_spots_ => k_is)
    (case k_all_spots => k_is)
    (case a_all_ties => k_is)
    (case l_all_ties => k_is)
    (case c_all_ties_ => k_is)
    (case k_all_ties => k_is)
    (case a_spots_of => k_is)
    (case l_spots_of => k_is)
    (case c_spots_of_ => k_is)
    (case k_spots_of => k_is)
    (case a_is_sized => k_is)
    (case l_is_sized => k_is)
    (case c_is_sized_ => k_is)
    (case k_is_sized => k_is)
    (case a_is_row_floors => k_is)
    (case l_is_row_floors => k_is)
    (case c_is_row_floors_ => k_is)
    (case k_is_row_floors => k_is)
    (case a_Floor_init => k_is)
    (case i_Floor_init_ => k_is)
    (case l_Floor_init => k_is)
    (case c_Floor_init_ => k_is)
    (case k_Floor_init => k_is)
    (case a__law_floor => k_is)
    (case l__law_floor => k_is)
    (case c__law_floor_ => k_is)
    (case k__law_floor => k_is)
    (case a__law_match => k_is)
    (case l__law_match => k_is)
    (case c__law_match_ => k_is)
    (case k__law_match => k_is)
    (case a_homes => k_is)
    (case l_homes => k_is)
    (case c_homes_ => k_is)
    (case k_homes => k_is)
    (case a__law_wide => k_is)
    (case l__law_wide => k_is)
    (case c__law_wide_ => k_is)
    (case k__law_wide => k_is)
    (case a__law_entry_row => k_is)
    (case l__law_entry_row => k_is)
    (case c__law_entry_row_ => k_is)
    (case k__law_entry_row => k_is)
    (case a__law_letter_row => k_is)
    (case l__law_letter_row => k_is)
    (case c__law_letter_row_ => k_is)
    (case k__law_letter_row => k_is)
    (case a__law_is => k_is)
    (case l__law_is => k_is)
    (case c__law_is_ => k_is)
    (case k__law_is => k_is)
    (case a_is_integer => k_is)
    (case l_is_integer => k_is)
    (case c_is_integer_ => k_is)
    (case k_is_integer => k_is)
    (case a_is_within => k_is)
    (case l_is_within => k_is)
    (case c_is_within_ => k_is)
    (case k_is_within => k_is)
    (case a_check_within => k_is)
    (case l_check_within => k_is)
    (case c_check_within_ => k_is)
    (case k_check_within => k_is)
    (case a_check_match => k_is)
    (case l_check_match => k_is)
    (case c_check_match_ => k_is)
    (case k_check_match => k_is)
    (case a_is_below => k_is)
    (case l_is_below => k_is)
    (case c_is_below_ => k_is)
    (case k_is_below => k_is)
    (case a_is_row_rows => k_is)
    (case l_is_row_rows => k_is)
    (case c_is_row_rows_ => k_is)
    (case k_is_row_rows => k_is)
    (case a_marked => k_is)
    (case l_marked => k_is)
    (case c_marked_ => k_is)
    (case k_marked => k_is)
    (case a_mark_of => k_is)
    (case l_mark_of => k_is)
    (case c_mark_of_ => k_is)
    (case k_mark_of => k_is)
    (case a_seal_of => k_is)
    (case l_seal_of => k_is)
    (case c_seal_of_ => k_is)
    (case k_seal_of => k_is)
    (case a_without_seal => k_is)
    (case l_without_seal => k_is)
    (case c_without_seal_ => k_is)
    (case k_without_seal => k_is)
    (case a_Reader_init => k_is)
    (case i_Reader_init_ => k_is)
    (case l_Reader_init => k_is)
    (case c_Reader_init_ => k_is)
    (case k_Reader_init => k_is)
    (case a_Reader_next_byte => k_is)
    (case i_Reader_next_byte_ => k_is)
    (case l_Reader_next_byte => k_is)
    (case c_Reader_next_byte_ => k_is)
    (case k_Reader_next_byte => k_is)
    (case a_Reader_finish => k_is)
    (case i_Reader_finish_ => k_is)
    (case l_Reader_finish => k_is)
    (case c_Reader_finish_ => k_is)
    (case k_Reader_finish => k_is)
    (case a_number_at => k_is)
    (case l_number_at => k_is)
    (case c_number_at_ => k_is)
    (case k_number_at => k_is)
    (case a_taken => k_is)
    (case l_taken => k_is)
    (case c_taken_ => k_is)
    (case k_taken => k_is)
    (case a_Reader_next_number => k_is)
    (case i_Reader_next_number_ => k_is)
    (case l_Reader_next_number => k_is)
    (case c_Reader_next_number_ => k_is)
    (case k_Reader_next_number => k_is)
    (case a_taken_counts => k_is)
    (case l_taken_counts => k_is)
    (case c_taken_counts_ => k_is)
    (case k_taken_counts => k_is)
    (case a_taken_say => k_is)
    (case l_taken_say => k_is)
    (case c_taken_say_ => k_is)
    (case k_taken_say => k_is)
    (case a_small_number => k_is)
    (case l_small_number => k_is)
    (case c_small_number_ => k_is)
    (case k_small_number => k_is)
    (case a_taken_pair => k_is)
    (case l_taken_pair => k_is)
    (case c_taken_pair_ => k_is)
    (case k_taken_pair => k_is)
    (case a_taken_entry => k_is)
    (case l_taken_entry => k_is)
    (case c_taken_entry_ => k_is)
    (case k_taken_entry => k_is)
    (case a_taken_tell => k_is)
    (case l_taken_tell => k_is)
    (case c_taken_tell_ => k_is)
    (case k_taken_tell => k_is)
    (case a_taken_letter => k_is)
    (case l_taken_letter => k_is)
    (case c_taken_letter_ => k_is)
    (case k_taken_letter => k_is)
    (case a_are_counts => k_is)
    (case l_are_counts => k_is)
    (case c_are_counts_ => k_is)
    (case k_are_counts => k_is)
    (case a_is_say => k_is)
    (case l_is_say => k_is)
    (case c_is_say_ => k_is)
    (case k_is_say => k_is)
    (case a_is_pair => k_is)
    (case l_is_pair => k_is)
    (case c_is_pair_ => k_is)
    (case k_is_pair => k_is)
    (case a_are_pairs => k_is)
    (case l_are_pairs => k_is)
    (case c_are_pairs_ => k_is)
    (case k_are_pairs => k_is)
    (case a_has_form => k_is)
    (case l_has_form => k_is)
    (case c_has_form_ => k_is)
    (case k_has_form => k_is)
    (case a_is_small_entry => k_is)
    (case l_is_small_entry => k_is)
    (case c_is_small_entry_ => k_is)
    (case k_is_small_entry => k_is)
    (case a_is_tell => k_is)
    (case l_is_tell => k_is)
    (case c_is_tell_ => k_is)
    (case k_is_tell => k_is)
    (case a_is_letter => k_is)
    (case l_is_letter => k_is)
    (case c_is_letter_ => k_is)
    (case k_is_letter => k_is)
    (case a_letter_of => k_is)
    (case l_letter_of => k_is)
    (case c_letter_of_ => k_is)
    (case k_letter_of => k_is)
    (case a_read_letter => k_is)
    (case l_read_letter => k_is)
    (case c_read_letter_ => k_is)
    (case k_read_letter => k_is)
    (case a__law_some_letter => k_is)
    (case l__law_some_letter => k_is)
    (case c__law_some_letter_ => k_is)
    (case k__law_some_letter => k_is)
    (case a__law_read_wide => k_is)
    (case l__law_read_wide => k_is)
    (case c__law_read_wide_ => k_is)
    (case k__law_read_wide => k_is)
    (case a__law_read_wides => k_is)
    (case l__law_read_wides => k_is)
    (case c__law_read_wides_ => k_is)
    (case k__law_read_wides => k_is)
    (case a__law_read_say => k_is)
    (case l__law_read_say => k_is)
    (case c__law_read_say_ => k_is)
    (case k__law_read_say => k_is)
    (case a__law_read_entry => k_is)
    (case l__law_read_entry => k_is)
    (case c__law_read_entry_ => k_is)
    (case k__law_read_entry => k_is)
    (case a__law_read_tell => k_is)
    (case l__law_read_tell => k_is)
    (case c__law_read_tell_ => k_is)
    (case k__law_read_tell => k_is)
    (case a__law_whole => k_is)
    (case l__law_whole => k_is)
    (case c__law_whole_ => k_is)
    (case k__law_whole => k_is)
    (case a__law_read => k_is)
    (case l__law_read => k_is)
    (case c__law_read_ => k_is)
    (case k__law_read => k_is)
    (case a_check_row => k_is)
    (case l_check_row => k_is)
    (case c_check_row_ => k_is)
    (case k_check_row => k_is)
    (case a_unsealed => k_is)
    (case l_unsealed => k_is)
    (case c_unsealed_ => k_is)
    (case k_unsealed => k_is)
    (case a__law_deep => k_is)
    (case l__law_deep => k_is)
    (case c__law_deep_ => k_is)
    (case k__law_deep => k_is)
    (case a_law => k_is)
    (case l_law => k_is)
    (case c_law_ => k_is)
    (case k_law => k_is)
