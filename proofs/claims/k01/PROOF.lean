import PyProof.Rows.All
import PySem.Challenge.RW_allbrought_k01_floors_judged
import Wide.All
import OpenK.AllK
import Wide.FinOn
import HandS.ForMost
import HandS.ForExc
import HandS.CallSlots
import HandS.ExcInit
import HandS.ExcField
import HandS.TryMany
import HandS.Small
import HandS.TupMul
import HandS.List
import HandS.Wide
import HandS.TupAny
import HandS.IsInst
import HandS.Style
import HandS.WordsExc
import HandS.Zip
import KE.GoesEnum
import HandS.Deep
import HandS.SortInts
import HandS.DictComp
import HandS.OwnEq
import KE.GoesRaise
import HandS.Strs
import HandS.Conv
import PyProof.LongRange
import KE.DataMinMax
import PyProof.P3In
import HandS.ReplaceLit
import HandS.ReplaceDef
set_option Elab.async false
set_option linter.all false
set_option maxRecDepth 100000
set_option maxHeartbeats 0
/-! Dn: a pure layer over HandS: what is never changed (numbers, texts, tuples, frozen lists and instances) is a plain datum, what is changed stands in a store; a statement's meaning is a predicate transformer over data and store. -/
namespace Dn
open PySem PySem.Spec PyProof.Rows L2

abbrev Frg := PySem.W.Frag
/-- data -/
inductive Dt where
  | non | bl (b : Bool) | int (i : Int) | str (x : Str) | ty (n : String)
  | tup (ws : List Dt) | lst (ws : List Dt) | kl (ws : List Dt)
  | ins (C : Addr) (ns : List Str) (ws : List Dt)
  | dK (ks : List Key) (ws : List Dt) | dT (ks : List (List Key)) (ws : List Dt)
  | exn (a dd : Addr) (ns : List Str) (ws : List Dt)
  | ref (a : Addr)
  | kt (ws : List Dt)
/-- what is changed -/
inductive Ob where
  | lst (ws : List Dt)
  | ins (C : Addr) (ns : List Str) (ws : List Dt)
  | dK (ks : List Key) (ws : List Dt) | dT (ks : List (List Key)) (ws : List Dt)
abbrev Store := Addr → Option Ob
abbrev Hid := Addr → Prop
abbrev Env := List (Option Dt)
def sup (S : Store) (a : Addr) (o : Ob) : Store := fun b => if b = a then some o else S b
theorem sup_same {S : Store} {a : Addr} {o : Ob} : sup S a o a = some o := by unfold sup; rw [if_pos rfl]
theorem sup_ne {S : Store} {a b : Addr} {o : Ob} (h : b ≠ a) : sup S a o b = S b := by unfold sup; rw [if_neg h]
theorem sup_sup {S : Store} {a : Addr} {o u : Ob} : sup (sup S a o) a u = sup S a u := by
  funext b; unfold sup; split <;> rfl

/-- there, and never changed -/
def Fz (P : Hid) (S : Store) (H : Hp) (a : Addr) (o : HO) : Prop := H a = some o ∧ S a = none ∧ ¬ P a
/-- of the written part -/
def KL (K : Frg) (a : Addr) (xs : List V) : Prop := SqL K (fun _ => none) a xs
def KT (K : Frg) (a : Addr) (xs : List V) : Prop := SqT K (fun _ => none) a xs ∧ ∃ o, K.lookup a = some o ∧ o.cls = .type "tuple" ∧ o.dict = none
theorem KL.sq {K : Frg} {H : Hp} {a : Addr} {xs : List V} (h : KL K a xs) : SqL K H a xs := by
  rcases h with (h | ⟨o, h⟩) | h
  · cases h
  · cases h
  · exact .inr h
theorem KT.sq {K : Frg} {H : Hp} {a : Addr} {xs : List V} (h : KT K a xs) : SqT K H a xs := by
  rcases h.1 with (h | ⟨o, h⟩) | h
  · cases h
  · cases h
  · exact .inr h

mutual
/-- the value v stands for the datum -/
def Rp (K : Frg) (P : Hid) (S : Store) (H : Hp) : Dt → V → Prop
  | .non, v => v = .non
  | .bl b, v => v = .bl b
  | .int i, v => v = .int i
  | .str x, v => v = .str x
  | .ty n, v => v = .ty n
  | .ref a, v => v = .ref a
  | .tup ws, v => ∃ a xs, v = .ref a ∧ Fz P S H a (.tup xs) ∧ RpL K P S H ws xs
  | .kt ws, v => ∃ a xs, v = .ref a ∧ KT K a xs ∧ RpL K P S H ws xs
  | .lst ws, v => ∃ a xs, v = .ref a ∧ Fz P S H a (.lst xs) ∧ RpL K P S H ws xs
  | .kl ws, v => ∃ a xs, v = .ref a ∧ ((∃ o, Fz P S H a (.frz o (.lst xs))) ∨ KL K a xs) ∧ RpL K P S H ws xs
  | .ins C ns ws, v => ∃ a dx xs, v = .ref a ∧ Fz P S H a (.ins C dx (ns.zip xs)) ∧ ns.length = ws.length ∧ RpL K P S H ws xs
  | .dK ks ws, v => ∃ a xs, v = .ref a ∧ Fz P S H a (.dK (ks.zip xs)) ∧ ks.length = ws.length ∧ RpL K P S H ws xs
  | .dT ks ws, v => ∃ a xs, v = .ref a ∧ Fz P S H a (.dT (ks.zip xs)) ∧ ks.length = ws.length ∧ RpL K P S H ws xs
  | .exn a dd ns ws, v => ∃ xs, v = .ref a ∧ Fz P S H dd (.xd (ns.zip xs)) ∧ ns.length = ws.length ∧ RpL K P S H ws xs
def RpL (K : Frg) (P : Hid) (S : Store) (H : Hp) : List Dt → List V → Prop
  | [], xs => xs = []
  | w :: ws, xs => ∃ v r, xs = v :: r ∧ Rp K P S H w v ∧ RpL K P S H ws r
end
section
variable {K : Frg} {P P' : Hid} {S S' S2 : Store} {H H' H2 : Hp}
mutual
theorem Rp.conv (c : ∀ a o, H a = some o → S a = none → ¬ P a → H' a = some o ∧ S' a = none ∧ ¬ P' a) : ∀ (w : Dt) (v : V), Rp K P S H w v → Rp K P' S' H' w v
  | .non, v, h => by unfold Rp at h ⊢; exact h
  | .bl b, v, h => by unfold Rp at h ⊢; exact h
  | .int i, v, h => by unfold Rp at h ⊢; exact h
  | .str x, v, h => by unfold Rp at h ⊢; exact h
  | .ty n, v, h => by unfold Rp at h ⊢; exact h
  | .ref a, v, h => by unfold Rp at h ⊢; exact h
  | .tup ws, v, h => by
    unfold Rp at h ⊢
    obtain ⟨a, xs, e, f, r⟩ := h
    exact ⟨a, xs, e, c a _ f.1 f.2.1 f.2.2, RpL.conv c ws xs r⟩
  | .kt ws, v, h => by
    unfold Rp at h ⊢
    obtain ⟨a, xs, e, f, r⟩ := h
    exact ⟨a, xs, e, f, RpL.conv c ws xs r⟩
  | .lst ws, v, h => by
    unfold Rp at h ⊢
    obtain ⟨a, xs, e, f, r⟩ := h
    exact ⟨a, xs, e, c a _ f.1 f.2.1 f.2.2, RpL.conv c ws xs r⟩
  | .kl ws, v, h => by
    unfold Rp at h ⊢
    obtain ⟨a, xs, e, f, r⟩ := h
    exact ⟨a, xs, e, f.imp (fun ⟨o, f⟩ => ⟨o, c a _ f.1 f.2.1 f.2.2⟩) id, RpL.conv c ws xs r⟩
  | .ins C ns ws, v, h => by
    unfold Rp at h ⊢
    obtain ⟨a, dx, xs, e, f, z, r⟩ := h
    exact ⟨a, dx, xs, e, c a _ f.1 f.2.1 f.2.2, z, RpL.conv c ws xs r⟩
  | .dK ks ws, v, h => by
    unfold Rp at h ⊢
    obtain ⟨a, xs, e, f, z, r⟩ := h
    exact ⟨a, xs, e, c a _ f.1 f.2.1 f.2.2, z, RpL.conv c ws xs r⟩
  | .dT ks ws, v, h => by
    unfold Rp at h ⊢
    obtain ⟨a, xs, e, f, z, r⟩ := h
    exact ⟨a, xs, e, c a _ f.1 f.2.1 f.2.2, z, RpL.conv c ws xs r⟩
  | .exn a dd ns ws, v, h => by
    unfold Rp at h ⊢
    obtain ⟨xs, e, f, z, r⟩ := h
    exact ⟨xs, e, c dd _ f.1 f.2.1 f.2.2, z, RpL.conv c ws xs r⟩
theorem RpL.conv (c : ∀ a o, H a = some o → S a = none → ¬ P a → H' a = some o ∧ S' a = none ∧ ¬ P' a) : ∀ (ws : List Dt) (xs : List V), RpL K P S H ws xs → RpL K P' S' H' ws xs
  | [], xs, h => by unfold RpL at h ⊢; exact h
  | w :: ws, xs, h => by
    unfold RpL at h ⊢
    obtain ⟨v, r, e, h1, h2⟩ := h
    exact ⟨v, r, e, Rp.conv c w v h1, RpL.conv c ws r h2⟩
end
/-- what is not changed stays -/
def Evo (S : Store) (H : Hp) (S' : Store) (H' : Hp) : Prop := ∀ a o, S a = none → H a = some o → H' a = some o ∧ S' a = none
theorem Evo.refl : Evo S H S H := fun _ _ n h => ⟨h, n⟩
theorem Evo.trans (a : Evo S H S' H') (b : Evo S' H' S2 H2) : Evo S H S2 H2 := fun x o n h => b x o (a x o n h).2 (a x o n h).1
theorem Rp.mono (e : Evo S H S' H') {w : Dt} {v : V} (h : Rp K P S H w v) : Rp K P S' H' w v := Rp.conv (fun a o r n p => ⟨(e a o n r).1, (e a o n r).2, p⟩) w v h
theorem RpL.mono (e : Evo S H S' H') {ws : List Dt} {xs : List V} (h : RpL K P S H ws xs) : RpL K P S' H' ws xs := RpL.conv (fun a o r n p => ⟨(e a o n r).1, (e a o n r).2, p⟩) ws xs h
theorem RpL.length : ∀ {ws : List Dt} {xs : List V}, RpL K P S H ws xs → ws.length = xs.length
  | [], xs, h => by unfold RpL at h; subst h; rfl
  | w :: ws, xs, h => by
    unfold RpL at h
    obtain ⟨v, r, e, h1, h2⟩ := h
    subst e
    rw [List.length_cons, List.length_cons, RpL.length h2]
theorem RpL.nil : RpL K P S H [] [] := by unfold RpL; rfl
theorem RpL.cons {w : Dt} {v : V} {ws : List Dt} {xs : List V} (h : Rp K P S H w v) (t : RpL K P S H ws xs) : RpL K P S H (w :: ws) (v :: xs) := by
  unfold RpL; exact ⟨v, xs, rfl, h, t⟩
theorem RpL.get : ∀ {ws : List Dt} {xs : List V} {i : Nat} {w : Dt}, RpL K P S H ws xs → ws[i]? = some w → ∃ v, xs[i]? = some v ∧ Rp K P S H w v
  | [], _, _, _, _, e => by simp at e
  | u :: ws, xs, 0, w, h, e => by
    unfold RpL at h
    obtain ⟨v, r, rfl, h1, h2⟩ := h
    simp at e
    subst e
    exact ⟨v, rfl, h1⟩
  | u :: ws, xs, i + 1, w, h, e => by
    unfold RpL at h
    obtain ⟨v, r, rfl, h1, h2⟩ := h
    obtain ⟨y, q1, q2⟩ := RpL.get (i := i) (w := w) h2 (by simpa using e)
    exact ⟨y, by simpa using q1, q2⟩
theorem RpL.append : ∀ {ws zs : List Dt} {xs ys : List V}, RpL K P S H ws xs → RpL K P S H zs ys → RpL K P S H (ws ++ zs) (xs ++ ys)
  | [], zs, xs, ys, h, t => by unfold RpL at h; subst h; exact t
  | w :: ws, zs, xs, ys, h, t => by
    unfold RpL at h
    obtain ⟨v, r, rfl, h1, h2⟩ := h
    exact RpL.cons h1 (RpL.append h2 t)
theorem RpL.take : ∀ {ws : List Dt} {xs : List V} (n : Nat), RpL K P S H ws xs → RpL K P S H (ws.take n) (xs.take n)
  | _, _, 0, _ => by simp; exact RpL.nil
  | [], xs, n + 1, h => by unfold RpL at h; subst h; simp; exact RpL.nil
  | w :: ws, xs, n + 1, h => by
    unfold RpL at h
    obtain ⟨v, r, rfl, h1, h2⟩ := h
    exact RpL.cons h1 (RpL.take n h2)
theorem RpL.drop : ∀ {ws : List Dt} {xs : List V} (n : Nat), RpL K P S H ws xs → RpL K P S H (ws.drop n) (xs.drop n)
  | _, _, 0, h => h
  | [], xs, n + 1, h => by unfold RpL at h; subst h; simp; exact RpL.nil
  | w :: ws, xs, n + 1, h => by
    unfold RpL at h
    obtain ⟨v, r, rfl, h1, h2⟩ := h
    exact RpL.drop n h2
theorem RpL.set : ∀ {ws : List Dt} {xs : List V} (n : Nat) {w : Dt} {v : V}, RpL K P S H ws xs → Rp K P S H w v → RpL K P S H (ws.set n w) (xs.set n v)
  | [], xs, n, w, v, h, q => by unfold RpL at h; subst h; simp; exact RpL.nil
  | u :: ws, xs, 0, w, v, h, q => by
    unfold RpL at h
    obtain ⟨y, r, rfl, h1, h2⟩ := h
    exact RpL.cons q h2
  | u :: ws, xs, n + 1, w, v, h, q => by
    unfold RpL at h
    obtain ⟨y, r, rfl, h1, h2⟩ := h
    exact RpL.cons h1 (RpL.set n h2 q)
/-- the world: what the store tells stands in the heap; what is hidden is there, and no one's -/
def RpOb (K : Frg) (P : Hid) (S : Store) (H : Hp) (a : Addr) : Ob → Prop
  | .lst ws => ∃ xs, H a = some (.lst xs) ∧ RpL K P S H ws xs
  | .ins C ns ws => ∃ dx xs, H a = some (.ins C dx (ns.zip xs)) ∧ ns.length = ws.length ∧ RpL K P S H ws xs
  | .dK ks ws => ∃ xs, H a = some (.dK (ks.zip xs)) ∧ ks.length = ws.length ∧ RpL K P S H ws xs
  | .dT ks ws => ∃ xs, H a = some (.dT (ks.zip xs)) ∧ ks.length = ws.length ∧ RpL K P S H ws xs
structure Wd (K : Frg) (P : Hid) (S : Store) (H : Hp) : Prop where
  sim : ∀ a o, S a = some o → RpOb K P S H a o
  hid : ∀ a, P a → S a = none ∧ ∃ o, H a = some o
theorem RpOb.there {a : Addr} {o : Ob} (h : RpOb K P S H a o) : ∃ u, H a = some u := by
  cases o with
  | lst ws => obtain ⟨xs, e, _⟩ := h; exact ⟨_, e⟩
  | ins C ns ws => obtain ⟨dx, xs, e, _⟩ := h; exact ⟨_, e⟩
  | dK ks ws => obtain ⟨xs, e, _⟩ := h; exact ⟨_, e⟩
  | dT ks ws => obtain ⟨xs, e, _⟩ := h; exact ⟨_, e⟩
theorem Wd.free (W : Wd K P S H) {a : Addr} (h : H a = none) : S a = none ∧ ¬ P a := by
  refine ⟨?_, fun p => ?_⟩
  · cases e : S a with
    | none => rfl
    | some o =>
      obtain ⟨u, q⟩ := (W.sim a o e).there
      rw [h] at q; cases q
  · obtain ⟨_, u, q⟩ := W.hid a p
    rw [h] at q; cases q
/-- a new frozen object -/
theorem Evo.new {p : Addr} {o : HO} (h : H p = none) : Evo S H S (upd H p o) := fun a u n e => ⟨by rw [upd_ne (ne_of_none e h)]; exact e, n⟩
theorem RpOb.conv {a : Addr} {o : Ob} (c : ∀ a o, H a = some o → S a = none → ¬ P a → H' a = some o ∧ S' a = none ∧ ¬ P' a) (e : ∀ u, H a = some u → H' a = some u) (h : RpOb K P S H a o) : RpOb K P' S' H' a o := by
  cases o with
  | lst ws => obtain ⟨xs, q, r⟩ := h; exact ⟨xs, e _ q, r.conv c⟩
  | ins C ns ws => obtain ⟨dx, xs, q, z, r⟩ := h; exact ⟨dx, xs, e _ q, z, r.conv c⟩
  | dK ks ws => obtain ⟨xs, q, z, r⟩ := h; exact ⟨xs, e _ q, z, r.conv c⟩
  | dT ks ws => obtain ⟨xs, q, z, r⟩ := h; exact ⟨xs, e _ q, z, r.conv c⟩
theorem Wd.new (W : Wd K P S H) {p : Addr} {o : HO} (h : H p = none) : Wd K P S (upd H p o) := by
  have k : ∀ a u, H a = some u → upd H p o a = some u := fun a u e => by rw [upd_ne (ne_of_none e h)]; exact e
  refine ⟨fun a b e => (W.sim a b e).conv (fun x u r n q => ⟨k _ _ r, n, q⟩) (k a), fun a q => ⟨(W.hid a q).1, ?_⟩⟩
  · obtain ⟨u, z⟩ := (W.hid a q).2
    exact ⟨u, k _ _ z⟩
theorem Fz.new (W : Wd K P S H) {p : Addr} {o : HO} (h : H p = none) : Fz P S (upd H p o) p o := ⟨upd_same, (W.free h).1, (W.free h).2⟩
/-- a new object of the store -/
theorem Evo.alloc {p : Addr} {o : HO} {b : Ob} (h : H p = none) : Evo S H (sup S p b) (upd H p o) := fun a u n e => by
  have z : a ≠ p := ne_of_none e h
  rw [upd_ne z, sup_ne z]
  exact ⟨e, n⟩
/-- an object of the store is changed -/
theorem Evo.set {p : Addr} {o : HO} {b u : Ob} (h : S p = some u) : Evo S H (sup S p b) (upd H p o) := fun a u n e => by
  have z : a ≠ p := fun z => by rw [z, h] at n; cases n
  rw [upd_ne z, sup_ne z]
  exact ⟨e, n⟩
theorem Wd.put (W : Wd K P S H) {p : Addr} {o : HO} {b : Ob} (hp : ¬ P p) (hs : S p = none → H p = none) (hb : RpOb K P (sup S p b) (upd H p o) p b) : Wd K P (sup S p b) (upd H p o) := by
  have c : ∀ a u, H a = some u → S a = none → ¬ P a → upd H p o a = some u ∧ sup S p b a = none ∧ ¬ P a := fun a u r n q => by
    have z : a ≠ p := fun z => by
      subst z
      rw [hs n] at r
      cases r
    rw [sup_ne z, upd_ne z]
    exact ⟨r, n, q⟩
  refine ⟨fun a u e => ?_, fun a q => ?_⟩
  · by_cases z : a = p
    · subst z
      rw [sup_same] at e
      cases e
      exact hb
    · rw [sup_ne z] at e
      exact (W.sim a u e).conv c (fun y q => by rw [upd_ne z]; exact q)
  · have z : a ≠ p := fun z => hp (z ▸ q)
    obtain ⟨h1, u, h2⟩ := W.hid a q
    exact ⟨by rw [sup_ne z]; exact h1, u, by rw [upd_ne z]; exact h2⟩
theorem Wd.nohid (W : Wd K P S H) {a : Addr} {o : Ob} (h : S a = some o) : ¬ P a := fun q => by
  rw [(W.hid a q).1] at h; cases h
/-- knowledge is given up -/
def Sub (S' S : Store) : Prop := ∀ a o, S' a = some o → S a = some o
theorem Sub.none (h : Sub S' S) {a : Addr} (n : S a = none) : S' a = none := by
  cases e : S' a with
  | none => rfl
  | some o => rw [h a o e] at n; cases n
theorem Rp.sub (h : Sub S' S) {w : Dt} {v : V} (r : Rp K P S H w v) : Rp K P S' H w v := Rp.conv (fun a o r n p => ⟨r, h.none n, p⟩) w v r
theorem RpL.sub (h : Sub S' S) {w : List Dt} {v : List V} (r : RpL K P S H w v) : RpL K P S' H w v := RpL.conv (fun a o r n p => ⟨r, h.none n, p⟩) w v r
theorem Wd.sub (W : Wd K P S H) (h : Sub S' S) : Wd K P S' H :=
  ⟨fun a o e => (W.sim a o (h a o e)).conv (fun a o r n p => ⟨r, h.none n, p⟩) (fun _ e => e), fun a q => ⟨h.none (W.hid a q).1, (W.hid a q).2⟩⟩
theorem Evo.sub {S0 : Store} {H0 : Hp} (e : Evo S0 H0 S H) (h : Sub S' S) : Evo S0 H0 S' H := fun a o n q => ⟨(e a o n q).1, h.none (e a o n q).2⟩
def sdel (S : Store) (a : Addr) : Store := fun b => if b = a then none else S b
theorem sub_sdel {a : Addr} : Sub (sdel S a) S := fun b o e => by unfold sdel at e; split at e; cases e; exact e
theorem sub_sup {a : Addr} {o : Ob} (h : S a = none) : Sub S (sup S a o) := fun b u e => by
  have z : b ≠ a := fun z => by rw [z, h] at e; cases e
  rw [sup_ne z]; exact e
theorem Sub.refl : Sub S S := fun _ _ e => e
theorem Sub.trans (a : Sub S' S) (b : Sub S S2) : Sub S' S2 := fun x o e => b x o (a x o e)
/-- weaker words for the same -/
def Wk (w : Dt) (S : Store) (w' : Dt) (S' : Store) : Prop := Sub S' S ∧ ∀ K P H v, Wd K P S H → Rp K P S H w v → Rp K P S' H w' v
theorem Wk.sub {w : Dt} (h : Sub S' S) : Wk w S w S' := ⟨h, fun K P H v W r => r.sub h⟩
theorem Wk.refl {w : Dt} : Wk w S w S := Wk.sub Sub.refl
theorem Wk.trans {w w' w2 : Dt} (a : Wk w S w' S') (b : Wk w' S' w2 S2) : Wk w S w2 S2 := ⟨b.1.trans a.1, fun K P H v W r => b.2 K P H v (W.sub a.1) (a.2 K P H v W r)⟩
/-- a list of the store that is changed no more -/
theorem Wk.freeze {a : Addr} {ws : List Dt} (h : S a = some (.lst ws)) : Wk (.ref a) S (.lst ws) (sdel S a) := ⟨sub_sdel, fun K P H v W r => by
  unfold Rp at r ⊢
  obtain ⟨xs, e, rl⟩ := W.sim a _ h
  exact ⟨a, xs, r, ⟨e, by unfold sdel; rw [if_pos rfl], W.nohid h⟩, rl.sub sub_sdel⟩⟩
theorem Wk.freezeI {a C : Addr} {ns : List Str} {ws : List Dt} (h : S a = some (.ins C ns ws)) : Wk (.ref a) S (.ins C ns ws) (sdel S a) := ⟨sub_sdel, fun K P H v W r => by
  unfold Rp at r ⊢
  obtain ⟨dx, xs, e, z, rl⟩ := W.sim a _ h
  exact ⟨a, dx, xs, r, ⟨e, by unfold sdel; rw [if_pos rfl], W.nohid h⟩, z, rl.sub sub_sdel⟩⟩
end
@[irreducible] def clo (Q : Dt → Store → Prop) (w : Dt) (S : Store) : Prop := ∃ w' S', Wk w S w' S' ∧ Q w' S'
theorem clo.of {Q : Dt → Store → Prop} {w : Dt} {S : Store} (h : Q w S) : clo Q w S := by unfold clo; exact ⟨w, S, Wk.refl, h⟩
theorem clo.wk {Q : Dt → Store → Prop} {w w' : Dt} {S S' : Store} (h : Q w' S') (s : Wk w S w' S') : clo Q w S := by unfold clo; exact ⟨w', S', s, h⟩
theorem clo.sub {Q : Dt → Store → Prop} {w : Dt} {S S' : Store} (h : Q w S') (s : Sub S' S) : clo Q w S := by unfold clo; exact ⟨w, S', Wk.sub s, h⟩

/-- an exception: its class, its fields (where it has its own dict) -/
structure Exn where
  cls : Value
  fs : Option (List Str × List Dt)
def RpX (K : Frg) (P : Hid) (S : Store) (H : Hp) (x : Exn) (cls : Value) (d : Option Addr) : Prop :=
  cls = x.cls ∧ match x.fs with
    | none => d = none
    | some (ns, ws) => ∃ dd xs, d = some dd ∧ Fz P S H dd (.xd (ns.zip xs)) ∧ ns.length = ws.length ∧ RpL K P S H ws xs
@[irreducible] def clX (Q : Exn → Store → Prop) (x : Exn) (S : Store) : Prop := ∃ S', Sub S' S ∧ Q x S'
theorem clX.of {Q : Exn → Store → Prop} {w : Exn} {S : Store} (h : Q w S) : clX Q w S := by unfold clX; exact ⟨S, Sub.refl, h⟩
theorem clX.sub {Q : Exn → Store → Prop} {w : Exn} {S S' : Store} (h : Q w S') (s : Sub S' S) : clX Q w S := by unfold clX; exact ⟨S', s, h⟩
section
variable {K : Frg} {P : Hid} {S S' : Store} {H H' : Hp} {x : Exn} {cls : Value} {d : Option Addr}
theorem RpX.conv {P' : Hid} (c : ∀ a o, H a = some o → S a = none → ¬ P a → H' a = some o ∧ S' a = none ∧ ¬ P' a) (h : RpX K P S H x cls d) : RpX K P' S' H' x cls d := by
  obtain ⟨c1, fs⟩ := x
  cases fs with
  | none => exact h
  | some p =>
    obtain ⟨ns, ws⟩ := p
    obtain ⟨e, dd, xs, e2, f, z, r⟩ := h
    exact ⟨e, dd, xs, e2, c dd _ f.1 f.2.1 f.2.2, z, r.conv c⟩
theorem RpX.mono (e : Evo S H S' H') (h : RpX K P S H x cls d) : RpX K P S' H' x cls d := h.conv fun a o r n p => ⟨(e a o n r).1, (e a o n r).2, p⟩
theorem RpX.sub (e : Sub S' S) (h : RpX K P S H x cls d) : RpX K P S' H x cls d := h.conv fun a o r n p => ⟨r, e.none n, p⟩
end
/-- slots -/
def RpS (K : Frg) (P : Hid) (S : Store) (H : Hp) (σ : Env) (σv : L2.St) : Prop := σv.length = σ.length ∧ ∀ (i : Nat) (w : Dt), σ[i]? = some (some w) → ∃ v, σv[i]? = some (some v) ∧ Rp K P S H w v
section
variable {K : Frg} {P : Hid} {S S' S2 : Store} {H H' H2 : Hp} {σ σ' : Env} {σv : L2.St}
theorem RpS.mono (e : Evo S H S' H') (h : RpS K P S H σ σv) : RpS K P S' H' σ σv := ⟨h.1, fun i w q => let ⟨v, a, b⟩ := h.2 i w q; ⟨v, a, b.mono e⟩⟩
theorem RpS.sub (e : Sub S' S) (h : RpS K P S H σ σv) : RpS K P S' H σ σv := ⟨h.1, fun i w q => let ⟨v, a, b⟩ := h.2 i w q; ⟨v, a, b.sub e⟩⟩
theorem RpS.set (h : RpS K P S H σ σv) {i : Nat} {w : Dt} {v : V} (r : Rp K P S H w v) : RpS K P S H (σ.set i (some w)) (σv.set i (some v)) := by
  refine ⟨by rw [List.length_set, List.length_set]; exact h.1, fun j z q => ?_⟩
  by_cases e : i = j
  · subst e
    by_cases l : i < σ.length
    · rw [List.getElem?_set_self l] at q
      cases q
      exact ⟨v, by rw [List.getElem?_set_self (by rw [h.1]; exact l)], r⟩
    · rw [List.getElem?_eq_none (by rw [List.length_set]; omega)] at q
      cases q
  · rw [List.getElem?_set_ne e] at q ⊢
    exact h.2 j z q
/-- what follows: a value, an exception -/
def NQ (K : Frg) (P : Hid) (S : Store) (H : Hp) (Q : Dt → Store → Prop) (Qv : VK) : Prop := ∀ v H' w S', Wd K P S' H' → Rp K P S' H' w v → Evo S H S' H' → Q w S' → Qv v H'
def NX (K : Frg) (P : Hid) (S : Store) (H : Hp) (Q : Exn → Store → Prop) (E : XK) : Prop := ∀ cls d H' x S', Wd K P S' H' → RpX K P S' H' x cls d → Evo S H S' H' → Q x S' → E cls d H'
def NN (K : Frg) (P : Hid) (S : Store) (H : Hp) (Q : Env → Store → Prop) (N : L2.St → Hp → Prop) : Prop := ∀ σv' H' σ' S', Wd K P S' H' → RpS K P S' H' σ' σv' → Evo S H S' H' → Q σ' S' → N σv' H'
def NXS (K : Frg) (P : Hid) (S : Store) (H : Hp) (Q : Exn → Env → Store → Prop) (E : WX) : Prop := ∀ cls d σv' H' x σ' S', Wd K P S' H' → RpX K P S' H' x cls d → RpS K P S' H' σ' σv' → Evo S H S' H' → Q x σ' S' → E cls d σv' H'
variable {Q : Dt → Store → Prop} {Qv : VK} {Ex : Exn → Store → Prop} {E : XK}
theorem NQ.after (h : NQ K P S H Q Qv) (e : Evo S H S' H') : NQ K P S' H' Q Qv := fun v H2 w S2 W r e2 q => h v H2 w S2 W r (e.trans e2) q
theorem NX.after (h : NX K P S H Ex E) (e : Evo S H S' H') : NX K P S' H' Ex E := fun c d H2 w S2 W r e2 q => h c d H2 w S2 W r (e.trans e2) q
theorem NN.after {Q : Env → Store → Prop} {N : L2.St → Hp → Prop} (h : NN K P S H Q N) (e : Evo S H S' H') : NN K P S' H' Q N := fun c d H2 S2 W r e2 q => h c d H2 S2 W r (e.trans e2) q
theorem NXS.after {Q : Exn → Env → Store → Prop} {N : WX} (h : NXS K P S H Q N) (e : Evo S H S' H') : NXS K P S' H' Q N := fun c d v H2 x s S2 W r r2 e2 q => h c d v H2 x s S2 W r r2 (e.trans e2) q
theorem NQ.now (h : NQ K P S H Q Qv) (W : Wd K P S H) {w : Dt} {v : V} (r : Rp K P S H w v) (q : Q w S) : Qv v H := h v H w S W r Evo.refl q
theorem NQ.clo (h : NQ K P S H Q Qv) : NQ K P S H (Dn.clo Q) Qv := fun v H2 w S2 W r e2 q => by
  unfold Dn.clo at q
  obtain ⟨w', S3, k, q⟩ := q
  exact h v H2 w' S3 (W.sub k.1) (k.2 K P H2 v W r) (e2.sub k.1) q
theorem NX.clo (h : NX K P S H Ex E) : NX K P S H (Dn.clX Ex) E := fun c d H2 w S2 W r e2 q => by
  unfold Dn.clX at q
  obtain ⟨S3, k, q⟩ := q
  exact h c d H2 w S3 (W.sub k) (r.sub k) (e2.sub k) q
end

/-! ### judgements -/
abbrev ME := Env → Store → (Dt → Store → Prop) → (Exn → Store → Prop) → Prop
abbrev MT := Env → Store → (Bool → Store → Prop) → (Exn → Store → Prop) → Prop
abbrev MA := Env → Store → (List Dt → Store → Prop) → (Exn → Store → Prop) → Prop
structure EndsW where
  nx : Env → Store → Prop
  rt : Dt → Store → Prop
  bk : Env → Store → Prop
  ct : Env → Store → Prop
  ex : Exn → Env → Store → Prop
abbrev MS := EndsW → Env → Store → Prop
def rdE (K : Frg) (E : WX) (m : ME) : TE := fun σv H Qv => ∃ P S σ Q Ex, Wd K P S H ∧ RpS K P S H σ σv ∧ m σ S Q Ex ∧ NQ K P S H Q Qv ∧ NX K P S H Ex (fun c d H' => E c d σv H')
def NB (K : Frg) (P : Hid) (S : Store) (H : Hp) (Q : Bool → Store → Prop) (Qv : Bool → Hp → Prop) : Prop := ∀ b H' S', Wd K P S' H' → Evo S H S' H' → Q b S' → Qv b H'
def NL (K : Frg) (P : Hid) (S : Store) (H : Hp) (Q : List Dt → Store → Prop) (Qv : List V → Hp → Prop) : Prop := ∀ vs H' ws S', Wd K P S' H' → RpL K P S' H' ws vs → Evo S H S' H' → Q ws S' → Qv vs H'
def rdT (K : Frg) (E : WX) (m : MT) : TT := fun σv H Qv => ∃ P S σ Q Ex, Wd K P S H ∧ RpS K P S H σ σv ∧ m σ S Q Ex ∧ NB K P S H Q Qv ∧ NX K P S H Ex (fun c d H' => E c d σv H')
def rdA (K : Frg) (E : WX) (m : MA) : TA := fun σv H Qv => ∃ P S σ Q Ex, Wd K P S H ∧ RpS K P S H σ σv ∧ m σ S Q Ex ∧ NL K P S H Q Qv ∧ NX K P S H Ex (fun c d H' => E c d σv H')
structure DOk (K : Frg) (P : Hid) (S : Store) (H : Hp) (Dw : EndsW) (D : Ends) (E : WX) : Prop where
  nx : NN K P S H Dw.nx D.nx
  rt : NQ K P S H Dw.rt D.rt
  bk : NN K P S H Dw.bk D.bk
  ct : NN K P S H Dw.ct D.ct
  ex : NXS K P S H Dw.ex E
theorem DOk.after {K : Frg} {P : Hid} {S S' : Store} {H H' : Hp} {Dw : EndsW} {D : Ends} {E : WX} (h : DOk K P S H Dw D E) (e : Evo S H S' H') : DOk K P S' H' Dw D E :=
  ⟨h.nx.after e, h.rt.after e, h.bk.after e, h.ct.after e, h.ex.after e⟩
def rdS (K : Frg) (E : WX) (m : MS) : TS := fun D σv H => ∃ P S σ Dw, Wd K P S H ∧ RpS K P S H σ σv ∧ m Dw σ S ∧ DOk K P S H Dw D E
def JE (X : Cx) (E : WX) (e : Expr) (m : ME) : Prop := PE X e (rdE X.K E m)
def JT (X : Cx) (E : WX) (e : Expr) (m : MT) : Prop := PT X e (rdT X.K E m)
def JW (X : Cx) (E : WX) (e : Expr) (m : MT) : Prop := PW X e (rdT X.K E m)
def JA (X : Cx) (E : WX) (es : List Expr) (m : MA) : Prop := PA X es (rdA X.K E m)
def JS (X : Cx) (E : WX) (s : Stmt) (m : MS) : Prop := PS X s (rdS X.K E m)
def JSs (X : Cx) (E : WX) (s : List Stmt) (m : MS) : Prop := PSs X s (rdS X.K E m)
theorem PE.weak {X : Cx} {e : Expr} {t t' : TE} (h : PE X e t) (i : ∀ σ H Q, t' σ H Q → t σ H Q) : PE X e t' := ⟨fun pins s σ H Q I q => h.run pins s σ H Q I (i σ H Q q)⟩
theorem PT.weak {X : Cx} {e : Expr} {t t' : TT} (h : PT X e t) (i : ∀ σ H Q, t' σ H Q → t σ H Q) : PT X e t' := ⟨fun pins s σ H Q I q => h.run pins s σ H Q I (i σ H Q q)⟩
theorem PW.weak {X : Cx} {e : Expr} {t t' : TT} (h : PW X e t) (i : ∀ σ H Q, t' σ H Q → t σ H Q) : PW X e t' := ⟨fun wh pins s σ H Q I q => h.run wh pins s σ H Q I (i σ H Q q)⟩
theorem PA.weak {X : Cx} {e : List Expr} {t t' : TA} (h : PA X e t) (i : ∀ σ H Q, t' σ H Q → t σ H Q) : PA X e t' := ⟨fun pos pins s σ H Q I q => h.run pos pins s σ H Q I (i σ H Q q)⟩
theorem PS.weak {X : Cx} {e : Stmt} {t t' : TS} (h : PS X e t) (i : ∀ σ H Q, t' Q σ H → t Q σ H) : PS X e t' := ⟨fun pins s σ H Q I q => h.run pins s σ H Q I (i σ H Q q)⟩
theorem PSs.weak {X : Cx} {e : List Stmt} {t t' : TS} (h : PSs X e t) (i : ∀ σ H Q, t' Q σ H → t Q σ H) : PSs X e t' := ⟨fun pins s σ H Q I q => h.run pins s σ H Q I (i σ H Q q)⟩
end Dn

namespace Dn
open PySem PySem.Spec PyProof.Rows L2
section
variable {X : Cx} {E : WX}
/-! ### names, constants -/
def mVar (i : Nat) : ME := fun σ S Q _ => match σ[i]? with | some (some w) => Q w S | _ => False
def mC (w : Dt) : ME := fun _ S Q _ => Q w S
theorem je_var {i : Nat} {x : Str} {pos : Pos} (h : PE X (.Name x pos) (tVar i)) : JE X E (.Name x pos) (mVar i) := PE.weak h fun σv H Qv q => by
  obtain ⟨P, S, σ, Q, Ex, W, r, m, nq, nx⟩ := q
  unfold mVar at m
  split at m
  · rename_i w e
    obtain ⟨v, e1, r1⟩ := r.2 i w e
    exact ⟨v, e1, nq.now W r1 m⟩
  · exact m.elim
theorem je_c {e : Expr} {v : V} {w : Dt} (h : PE X e (tC v)) (c : ∀ P S H, Rp X.K P S H w v) : JE X E e (mC w) := PE.weak h fun σv H Qv q => by
  obtain ⟨P, S, σ, Q, Ex, W, r, m, nq, nx⟩ := q
  exact nq.now W (c P S H) m
theorem je_int {i j pos} : JE X E (.Constant (.int i) j pos) (mC (.int i)) := je_c pe_int fun P S H => by unfold Rp; rfl
theorem je_bl {i j pos} : JE X E (.Constant (.bool i) j pos) (mC (.bl i)) := je_c pe_bl fun P S H => by unfold Rp; rfl
theorem je_non {j pos} : JE X E (.Constant .none j pos) (mC .non) := je_c pe_non fun P S H => by unfold Rp; rfl
theorem je_str {i j pos} : JE X E (.Constant (.str i) j pos) (mC (.str i)) := je_c pe_str fun P S H => by unfold Rp; rfl
/-- a module's number, text -/
theorem je_gint {x : Str} {i : Int} {t : Tok} {pos : Pos} (hg : Gl X x) (hm : X.mg x = some (.int i t)) (hd : (x == ("__debug__" : Str)) = false := by decide) : JE X E (.Name x pos) (mC (.int i)) :=
  je_c (pe_glob (v := .int i) hg hm ⟨t, rfl⟩ hd) fun P S H => by unfold Rp; rfl
theorem je_gstr {x i : Str} {t : Tok} {pos : Pos} (hg : Gl X x) (hm : X.mg x = some (.str i t)) (hd : (x == ("__debug__" : Str)) = false := by decide) : JE X E (.Name x pos) (mC (.str i)) :=
  je_c (pe_glob (v := .str i) hg hm ⟨t, rfl⟩ hd) fun P S H => by unfold Rp; rfl
theorem je_bty {x : Str} {T : String} {pos : Pos} (hg : Gl X x) (hm : X.mg x = none) (hv : bootBuiltins x = some (.type T)) (hn : x ≠ "__name__" := by decide) (hd : (x == ("__debug__" : Str)) = false := by decide) : JE X E (.Name x pos) (mC (.ty T)) :=
  je_c (pe_bltn (v := .ty T) hg hm hv rfl hn hd) fun P S H => by unfold Rp; rfl
/-! ### operators -/
abbrev Op2 := Dt → Dt → Store → (Dt → Store → Prop) → Prop
abbrev Op1 := Dt → Store → (Dt → Store → Prop) → Prop
abbrev OpN := List Dt → Store → (Dt → Store → Prop) → Prop
def rd2 (K : Frg) (g : Op2) : R2 := fun x y H Qv => ∃ P S w z Q, Wd K P S H ∧ Rp K P S H w x ∧ Rp K P S H z y ∧ g w z S Q ∧ NQ K P S H Q Qv
def rd1 (K : Frg) (g : Op1) : V → Hp → VK → Prop := fun x H Qv => ∃ P S w Q, Wd K P S H ∧ Rp K P S H w x ∧ g w S Q ∧ NQ K P S H Q Qv
def rdN (K : Frg) (g : OpN) : List V → Hp → VK → Prop := fun xs H Qv => ∃ P S ws Q, Wd K P S H ∧ RpL K P S H ws xs ∧ g ws S Q ∧ NQ K P S H Q Qv
def rdM (K : Frg) (g : Dt → OpN) : V → List V → Hp → VK → Prop := fun x xs H Qv => ∃ P S w ws Q, Wd K P S H ∧ Rp K P S H w x ∧ RpL K P S H ws xs ∧ g w ws S Q ∧ NQ K P S H Q Qv
def mOp (g : Op2) (ma mb : ME) : ME := fun σ S Q Ex => ma σ S (fun x S1 => mb σ S1 (fun y S2 => g x y S2 Q) Ex) Ex
def mUn (g : Op1) (ma : ME) : ME := fun σ S Q Ex => ma σ S (fun x S1 => g x S1 Q) Ex
def mFn (g : OpN) (ma : MA) : ME := fun σ S Q Ex => ma σ S (fun xs S1 => g xs S1 Q) Ex
def mMt (g : Dt → OpN) (mo : ME) (ma : MA) : ME := fun σ S Q Ex => mo σ S (fun x S1 => ma σ S1 (fun xs S2 => g x xs S2 Q) Ex) Ex
variable {a b c : Expr} {ma mb mc : ME} {pos : Pos}
theorem op_weak {g : Op2} {K : Frg} {σv : L2.St} {H : Hp} {Qv : VK} (h : rdE K E (mOp g ma mb) σv H Qv) : tOp (rd2 K g) (rdE K E ma) (rdE K E mb) σv H Qv := by
  obtain ⟨P, S, σ, Q, Ex, W, r, m, nq, nx⟩ := h
  refine ⟨P, S, σ, _, Ex, W, r, m, fun v H1 w S1 W1 r1 e1 m1 => ?_, nx⟩
  refine ⟨P, S1, σ, _, Ex, W1, r.mono e1, m1, fun v2 H2 w2 S2 W2 r2 e2 m2 => ?_, nx.after e1⟩
  exact ⟨P, S2, w, w2, Q, W2, r1.mono e2, r2, m2, nq.after (e1.trans e2)⟩
theorem je_op {op : Operator} {g : Op2} (ho : OpR X (binaryOp op) (rd2 X.K g)) (ha : JE X E a ma) (hb : JE X E b mb) : JE X E (.BinOp a op b pos) (mOp g ma mb) := PE.weak (pe_op ho ha hb) fun _ _ _ => op_weak
theorem je_cmp {op : CmpOp} {g : Op2} (ho : OpR X (compareOp op) (rd2 X.K g)) (ha : JE X E a ma) (hb : JE X E b mb) (hm : behindInMarks op b = false) : JE X E (.Compare a [op] [b] pos) (mOp g ma mb) := PE.weak (pe_cmpR ho ha hb hm) fun _ _ _ => op_weak
theorem je_un {op : UnaryOp} {g : Op1} (ho : UnR X (unaryOp op) (rd1 X.K g)) (ha : JE X E a ma) : JE X E (.UnaryOp op a pos) (mUn g ma) := PE.weak (pe_un ho ha) fun σv H Qv q => by
  obtain ⟨P, S, σ, Q, Ex, W, r, m, nq, nx⟩ := q
  exact ⟨P, S, σ, _, Ex, W, r, m, fun v H1 w S1 W1 r1 e1 m1 => ⟨P, S1, w, Q, W1, r1, m1, nq.after e1⟩, nx⟩
def mChain (g g' : Op2) (ma mb mc : ME) : ME := fun σ S Q Ex => ma σ S (fun x S1 => mb σ S1 (fun y S2 => g x y S2 fun z S3 => match z with
  | .bl true => mc σ S3 (fun u S4 => g' y u S4 Q) Ex
  | .bl false => Q (.bl false) S3
  | _ => False) Ex) Ex
/-! ### arguments, displays -/
def mNil : MA := fun _ S Q _ => Q [] S
def mCons (ma : ME) (mr : MA) : MA := fun σ S Q Ex => ma σ S (fun x S1 => mr σ S1 (fun xs S2 => Q (x :: xs) S2) Ex) Ex
theorem ja_nil : JA X E [] mNil := PA.weak pa_nil fun σv H Qv q => by
  obtain ⟨P, S, σ, Q, Ex, W, r, m, nq, nx⟩ := q
  exact nq [] H [] S W RpL.nil Evo.refl m
theorem ja_cons {e : Expr} {es : List Expr} {mr : MA} (ha : JE X E e ma) (hr : JA X E es mr) (hs : starEach (e :: es) X.env = (false, eval e X.env) :: starEach es X.env := by rfl) : JA X E (e :: es) (mCons ma mr) := PA.weak (pa_cons ha hr hs) fun σv H Qv q => by
  obtain ⟨P, S, σ, Q, Ex, W, r, m, nq, nx⟩ := q
  refine ⟨P, S, σ, _, Ex, W, r, m, fun v H1 w S1 W1 r1 e1 m1 => ?_, nx⟩
  refine ⟨P, S1, σ, _, Ex, W1, r.mono e1, m1, fun v2 H2 w2 S2 W2 r2 e2 m2 => ?_, nx.after e1⟩
  exact nq (v :: v2) H2 (w :: w2) S2 W2 (RpL.cons (r1.mono e2) r2) (e1.trans e2) m2
def mTup (ma : MA) : ME := fun σ S Q Ex => ma σ S (fun xs S1 => xs.length ≤ sizeLine ∧ Q (.tup xs) S1) Ex
theorem je_tup {es : List Expr} {x1} {mr : MA} (h : JA X E es mr) : JE X E (.Tuple es x1 pos) (mTup mr) := PE.weak (pe_tup h) fun σv H Qv q => by
  obtain ⟨P, S, σ, Q, Ex, W, r, m, nq, nx⟩ := q
  refine ⟨P, S, σ, _, Ex, W, r, m, fun vs H1 ws S1 W1 r1 e1 m1 => ?_, nx⟩
  refine ⟨by rw [← r1.length]; exact m1.1, fun p hp => ?_⟩
  refine nq (.ref p) _ (.tup ws) S1 (W1.new hp) ?_ (e1.trans (Evo.new hp)) m1.2
  unfold Rp
  exact ⟨p, vs, rfl, Fz.new W1 hp, r1.mono (Evo.new hp)⟩
/-- a new list: as a datum, as an object of the store -/
abbrev ML := Env → Store → (List Dt → Store → Prop) → (Exn → Store → Prop) → Prop
def rdL (K : Frg) (E : WX) (m : ML) : TE := fun σv H Qv => ∃ P S σ Q Ex, Wd K P S H ∧ RpS K P S H σ σv ∧ m σ S Q Ex ∧
  (∀ p H' H1 xs ws S', Wd K P S' H' → H' p = none → H1 = upd H' p (.lst xs) → RpL K P S' H' ws xs → Evo S H S' H' → Q ws S' → Qv (.ref p) H1) ∧ NX K P S H Ex (fun c d H' => E c d σv H')
def JL (X : Cx) (E : WX) (e : Expr) (m : ML) : Prop := PE X e (rdL X.K E m)
def mFrz (m : ML) : ME := fun σ S Q Ex => m σ S (fun ws S1 => Q (.lst ws) S1) Ex
def mRef (m : ML) : ME := fun σ S Q Ex => m σ S (fun ws S1 => ∀ p, S1 p = none → Q (.ref p) (sup S1 p (.lst ws))) Ex
theorem je_frz {e : Expr} {m : ML} (h : JL X E e m) : JE X E e (mFrz m) := PE.weak h fun σv H Qv q => by
  obtain ⟨P, S, σ, Q, Ex, W, r, m, nq, nx⟩ := q
  refine ⟨P, S, σ, _, Ex, W, r, m, fun p H' H1 xs ws S' W' hp e1 rl ev q => ?_, nx⟩
  subst e1
  refine nq (.ref p) _ (.lst ws) S' (W'.new hp) ?_ (ev.trans (Evo.new hp)) q
  unfold Rp
  exact ⟨p, xs, rfl, Fz.new W' hp, rl.mono (Evo.new hp)⟩
theorem je_ref {e : Expr} {m : ML} (h : JL X E e m) : JE X E e (mRef m) := PE.weak h fun σv H Qv q => by
  obtain ⟨P, S, σ, Q, Ex, W, r, m, nq, nx⟩ := q
  refine ⟨P, S, σ, _, Ex, W, r, m, fun p H' H1 xs ws S' W' hp e1 rl ev q => ?_, nx⟩
  subst e1
  have fr := W'.free hp
  refine nq (.ref p) _ (.ref p) (sup S' p (.lst ws)) (W'.put fr.2 (fun _ => hp) ⟨xs, upd_same, rl.mono (Evo.alloc hp)⟩) (by unfold Rp; rfl) (ev.trans (Evo.alloc hp)) (q p fr.1)
def mLst (ma : MA) : ML := fun σ S Q Ex => ma σ S (fun xs S1 => xs.length ≤ sizeLine ∧ Q xs S1) Ex
theorem jl_lst {es : List Expr} {mr : MA} (h : JA X E es mr) : JL X E (.List es pos) (mLst mr) := PE.weak (pe_lst h) fun σv H Qv q => by
  obtain ⟨P, S, σ, Q, Ex, W, r, m, nq, nx⟩ := q
  refine ⟨P, S, σ, _, Ex, W, r, m, fun vs H1 ws S1 W1 r1 e1 m1 => ?_, nx⟩
  refine ⟨by rw [← r1.length]; exact m1.1, fun p hp => ?_⟩
  exact nq p H1 _ vs ws S1 W1 hp rfl r1 e1 m1.2
/-! ### tests -/
/-- one of two ways -/
def br (b : Bool) (p q : Prop) : Prop := match b with
  | true => p
  | false => q
theorem br_true {p q : Prop} : br true p q = p := rfl
theorem br_false {p q : Prop} : br false p q = q := rfl
def truthW (S : Store) : Dt → Option Bool
  | .non => some false
  | .bl b => some b
  | .int i => some (i != 0)
  | .lst ws => some (!ws.isEmpty)
  | .kl ws => some (!ws.isEmpty)
  | .tup ws => some (!ws.isEmpty)
  | .kt ws => some (!ws.isEmpty)
  | .ref a => match S a with | some (.lst ws) => some (!ws.isEmpty) | _ => none
  | _ => none
def mTr (m : ME) : MT := fun σ S Q Ex => m σ S (fun w S1 => match truthW S1 w with | some b => Q b S1 | none => False) Ex
theorem RpL.isEmpty {K : Frg} {P : Hid} {S : Store} {H : Hp} {ws : List Dt} {xs : List V} (h : RpL K P S H ws xs) : ws.isEmpty = xs.isEmpty := by
  have := h.length
  cases ws <;> cases xs <;> simp_all
theorem Fz.sqL {K : Frg} {P : Hid} {S : Store} {H : Hp} {a : Addr} {xs : List V} (h : Fz P S H a (.lst xs)) : SqL K H a xs := SqL.of h.1
theorem sqT_of {K : Frg} {P : Hid} {S : Store} {H : Hp} {a : Addr} {xs : List V} (h : Fz P S H a (.tup xs) ∨ KT K a xs) : SqT K H a xs := h.elim (fun f => SqT.of f.1) KT.sq
theorem sqK_of {K : Frg} {P : Hid} {S : Store} {H : Hp} {a : Addr} {xs : List V} (h : (∃ o, Fz P S H a (.frz o (.lst xs))) ∨ KL K a xs) : SqL K H a xs := h.elim (fun ⟨o, f⟩ => .inl (.inr ⟨o, f.1⟩)) KL.sq
theorem truth_of {K : Frg} {P : Hid} {S : Store} {H : Hp} {w : Dt} {v : V} {b : Bool} (W : Wd K P S H) (r : Rp K P S H w v) (h : truthW S w = some b) : TruV K v H b := by
  cases w with
  | non => unfold Rp at r; subst r; cases h; rfl
  | bl k => unfold Rp at r; subst r; cases h; rfl
  | int i => unfold Rp at r; subst r; cases h; rfl
  | lst ws =>
    unfold Rp at r
    obtain ⟨a, xs, rfl, f, rl⟩ := r
    cases h
    exact .inl ⟨xs, f.sqL, by rw [rl.isEmpty]⟩
  | kl ws =>
    unfold Rp at r
    obtain ⟨a, xs, rfl, f, rl⟩ := r
    cases h
    exact .inl ⟨xs, sqK_of f, by rw [rl.isEmpty]⟩
  | tup ws =>
    unfold Rp at r
    obtain ⟨a, xs, rfl, f, rl⟩ := r
    cases h
    exact .inr (.inl ⟨xs, sqT_of (.inl f), by rw [rl.isEmpty]⟩)
  | kt ws =>
    unfold Rp at r
    obtain ⟨a, xs, rfl, f, rl⟩ := r
    cases h
    exact .inr (.inl ⟨xs, f.sq, by rw [rl.isEmpty]⟩)
  | ref a =>
    unfold Rp at r
    subst r
    unfold truthW at h
    dsimp only at h
    cases e : S a with
    | none => rw [e] at h; cases h
    | some o =>
      rw [e] at h
      cases o with
      | lst ws =>
        cases h
        obtain ⟨xs, e2, rl⟩ := W.sim a _ e
        exact .inl ⟨xs, SqL.of e2, by rw [rl.isEmpty]⟩
      | ins _ _ _ => cases h
      | dK _ _ => cases h
      | dT _ _ => cases h
  | str x => cases h
  | ty n => cases h
  | ins _ _ _ => cases h
  | dK _ _ => cases h
  | dT _ _ => cases h
  | exn _ _ _ _ => cases h
theorem jt_val {e : Expr} {m : ME} (h : JE X E e m) (he : ∀ whole, isTrue e X.env whole = (do let v ← whole; standAt e.pos; holding [v] (truthy v)) := by intro _; rfl) : JT X E e (mTr m) := PT.weak (pt_truth h he) fun σv H Qv q => by
  obtain ⟨P, S, σ, Q, Ex, W, r, m, nq, nx⟩ := q
  refine ⟨P, S, σ, _, Ex, W, r, m, fun v H1 w S1 W1 r1 e1 m1 => ?_, nx⟩
  dsimp only at m1
  split at m1
  · rename_i b hb
    exact ⟨b, truth_of W1 r1 hb, nq b H1 S1 W1 e1 m1⟩
  · exact m1.elim
variable {A B : Expr} {mA mB : MT} {rest : List Expr}
def mAnd (ma mb : MT) : MT := fun σ S Q Ex => ma σ S (fun b S1 => br b (mb σ S1 Q Ex) (Q false S1)) Ex
def mOr (ma mb : MT) : MT := fun σ S Q Ex => ma σ S (fun b S1 => br b (Q true S1) (mb σ S1 Q Ex)) Ex
def mNot (ma : MT) : MT := fun σ S Q Ex => ma σ S (fun b S1 => Q (!b) S1) Ex
theorem jw_one {o : BoolOp} (h : JT X E A mA) : JW X E (.BoolOp o [A] pos) mA := by
  cases o
  · exact pw_and1 h
  · exact pw_or1 h
theorem jw_and (h1 : JT X E A mA) (h2 : JW X E (.BoolOp .And (B :: rest) pos) mB) : JW X E (.BoolOp .And (A :: B :: rest) pos) (mAnd mA mB) := PW.weak (pw_and h1 h2) fun σv H Qv q => by
  obtain ⟨P, S, σ, Q, Ex, W, r, m, nq, nx⟩ := q
  refine ⟨P, S, σ, _, Ex, W, r, m, fun b H1 S1 W1 e1 m1 => ?_, nx⟩
  cases b with
  | true => exact ⟨P, S1, σ, Q, Ex, W1, r.mono e1, m1, fun b H2 S2 W2 e2 q2 => nq b H2 S2 W2 (e1.trans e2) q2, nx.after e1⟩
  | false => exact nq false H1 S1 W1 e1 m1
theorem jw_or (h1 : JT X E A mA) (h2 : JW X E (.BoolOp .Or (B :: rest) pos) mB) : JW X E (.BoolOp .Or (A :: B :: rest) pos) (mOr mA mB) := PW.weak (pw_or h1 h2) fun σv H Qv q => by
  obtain ⟨P, S, σ, Q, Ex, W, r, m, nq, nx⟩ := q
  refine ⟨P, S, σ, _, Ex, W, r, m, fun b H1 S1 W1 e1 m1 => ?_, nx⟩
  cases b with
  | false => exact ⟨P, S1, σ, Q, Ex, W1, r.mono e1, m1, fun b H2 S2 W2 e2 q2 => nq b H2 S2 W2 (e1.trans e2) q2, nx.after e1⟩
  | true => exact nq true H1 S1 W1 e1 m1
theorem jt_w (h : JW X E A mA) : JT X E A mA := PW.pt h
theorem jt_not (h : JT X E A mA) : JT X E (.UnaryOp .Not A pos) (mNot mA) := PT.weak (pt_not h) fun σv H Qv q => by
  obtain ⟨P, S, σ, Q, Ex, W, r, m, nq, nx⟩ := q
  exact ⟨P, S, σ, _, Ex, W, r, m, fun b H1 S1 W1 e1 m1 => nq (!b) H1 S1 W1 e1 m1, nx⟩
/-! ### and, or, not, if as values (True and False) -/
def mAndV (ma mb : ME) : ME := fun σ S Q Ex => ma σ S (fun w S1 => match w with | .bl true => mb σ S1 Q Ex | .bl false => Q (.bl false) S1 | _ => False) Ex
def mOrV (ma mb : ME) : ME := fun σ S Q Ex => ma σ S (fun w S1 => match w with | .bl false => mb σ S1 Q Ex | .bl true => Q (.bl true) S1 | _ => False) Ex
def mNotV (ma : ME) : ME := fun σ S Q Ex => ma σ S (fun w S1 => match w with | .bl b => Q (.bl (!b)) S1 | _ => False) Ex
theorem je_one {o : BoolOp} (h : JE X E a ma) : JE X E (.BoolOp o [a] pos) ma := pe_one h
theorem je_and (h1 : JE X E a ma) (h2 : JE X E (.BoolOp .And (b :: rest) pos) mb) : JE X E (.BoolOp .And (a :: b :: rest) pos) (mAndV ma mb) := PE.weak (pe_and h1 h2) fun σv H Qv q => by
  obtain ⟨P, S, σ, Q, Ex, W, r, m, nq, nx⟩ := q
  refine ⟨P, S, σ, _, Ex, W, r, m, fun v H1 w S1 W1 r1 e1 m1 => ?_, nx⟩
  dsimp only at m1
  split at m1
  · unfold Rp at r1
    exact ⟨true, r1, P, S1, σ, Q, Ex, W1, r.mono e1, m1, nq.after e1, nx.after e1⟩
  · unfold Rp at r1
    refine ⟨false, r1, ?_⟩
    exact nq (.bl false) H1 (.bl false) S1 W1 (by unfold Rp; rfl) e1 m1
  · exact m1.elim
theorem je_or (h1 : JE X E a ma) (h2 : JE X E (.BoolOp .Or (b :: rest) pos) mb) : JE X E (.BoolOp .Or (a :: b :: rest) pos) (mOrV ma mb) := PE.weak (pe_or h1 h2) fun σv H Qv q => by
  obtain ⟨P, S, σ, Q, Ex, W, r, m, nq, nx⟩ := q
  refine ⟨P, S, σ, _, Ex, W, r, m, fun v H1 w S1 W1 r1 e1 m1 => ?_, nx⟩
  dsimp only at m1
  split at m1
  · unfold Rp at r1
    exact ⟨false, r1, P, S1, σ, Q, Ex, W1, r.mono e1, m1, nq.after e1, nx.after e1⟩
  · unfold Rp at r1
    refine ⟨true, r1, ?_⟩
    exact nq (.bl true) H1 (.bl true) S1 W1 (by unfold Rp; rfl) e1 m1
  · exact m1.elim
theorem je_not (h1 : JE X E a ma) : JE X E (.UnaryOp .Not a pos) (mNotV ma) := PE.weak (pe_not h1) fun σv H Qv q => by
  obtain ⟨P, S, σ, Q, Ex, W, r, m, nq, nx⟩ := q
  refine ⟨P, S, σ, _, Ex, W, r, m, fun v H1 w S1 W1 r1 e1 m1 => ?_, nx⟩
  dsimp only at m1
  split at m1
  · rename_i k
    unfold Rp at r1
    exact ⟨k, r1, nq (.bl (!k)) H1 (.bl (!k)) S1 W1 (by unfold Rp; rfl) e1 m1⟩
  · exact m1.elim
def mIf (mt : MT) (ma mb : ME) : ME := fun σ S Q Ex => mt σ S (fun b S1 => br b (ma σ S1 Q Ex) (mb σ S1 Q Ex)) Ex
theorem je_if (hc : JT X E A mA) (ha : JE X E a ma) (hb : JE X E b mb) : JE X E (.IfExp A a b pos) (mIf mA ma mb) := PE.weak (pe_ifExp hc ha hb) fun σv H Qv q => by
  obtain ⟨P, S, σ, Q, Ex, W, r, m, nq, nx⟩ := q
  refine ⟨P, S, σ, _, Ex, W, r, m, fun b H1 S1 W1 e1 m1 => ?_, nx⟩
  cases b with
  | true => exact ⟨P, S1, σ, Q, Ex, W1, r.mono e1, m1, nq.after e1, nx.after e1⟩
  | false => exact ⟨P, S1, σ, Q, Ex, W1, r.mono e1, m1, nq.after e1, nx.after e1⟩
/-! ### calls -/
theorem fn_weak {g : OpN} {K : Frg} {ma : MA} {σv : L2.St} {H : Hp} {Qv : VK} (h : rdE K E (mFn g ma) σv H Qv) : tCB (rdN K g) (rdA K E ma) σv H Qv := by
  obtain ⟨P, S, σ, Q, Ex, W, r, m, nq, nx⟩ := h
  exact ⟨P, S, σ, _, Ex, W, r, m, fun v H1 w S1 W1 r1 e1 m1 => ⟨P, S1, w, Q, W1, r1, m1, nq.after e1⟩, nx⟩
theorem je_callB {x : Str} {id : String} {e : Expr} {es : List Expr} {g : OpN} {ma : MA} {p : Pos} (hc : CallR X (.builtin id) (rdN X.K g)) (hg : Gl X x) (hm : X.mg x = none) (hv : bootBuiltins x = some (.builtin id)) (ha : JA X E (e :: es) ma) (hn : x ≠ "__name__" := by decide) (hdb : (x == ("__debug__" : Str)) = false := by decide)
    (he : starEach (e :: es) X.env = (false, eval e X.env) :: starEach es X.env := by rfl) (hpl : (backTo pos (starEach es X.env)).any (·.1) = false := by rfl) :
    JE X E (.Call (.Name x p) (e :: es) [] pos) (mFn g ma) := PE.weak (pe_callB hc hg hm hv ha hn hdb he hpl) fun _ _ _ => fn_weak
theorem je_callT {x : Str} {T : String} {e : Expr} {es : List Expr} {g : OpN} {ma : MA} {p : Pos} (hc : CallR X (.type T) (rdN X.K g)) (hg : Gl X x) (hm : X.mg x = none) (hv : bootBuiltins x = some (.type T)) (ha : JA X E (e :: es) ma) (hn : x ≠ "__name__" := by decide) (hdb : (x == ("__debug__" : Str)) = false := by decide)
    (he : starEach (e :: es) X.env = (false, eval e X.env) :: starEach es X.env := by rfl) (hpl : (backTo pos (starEach es X.env)).any (·.1) = false := by rfl) :
    JE X E (.Call (.Name x p) (e :: es) [] pos) (mFn g ma) := PE.weak (pe_callTy hc hg hm hv ha hn hdb he hpl) fun _ _ _ => fn_weak
/-- a def's promise -/
abbrev Fw := List Dt → Store → (Dt → Store → Prop) → (Exn → Store → Prop) → Prop
def spOf (K : Frg) (n : Nat) (G : Fw) : Sp := fun vs H Qv Ev => vs.length = n ∧ ∃ P S ws Q Ex, Wd K P S H ∧ RpL K P S H ws vs ∧ G ws S Q Ex ∧ NQ K P S H Q Qv ∧ NX K P S H Ex Ev
def mCall (n : Nat) (G : Fw) (ma : MA) : ME := fun σ S Q Ex => ma σ S (fun ws S1 => ws.length = n ∧ G ws S1 Q Ex) Ex
theorem je_call {k n : Nat} {f : Addr} {fd : FuncData} {ps : List Str} {G : Fw} {x : Str} {p : Pos} {e : Expr} {es : List Expr} {ma : MA} (F : FnOk X.prog X.w X.K X.mg X.base (L2.CX X.prog X.w) k f fd ps (spOf X.K n G)) (hr : Room k X.A) (tk : Takes X E) (hg : Gl X x)
    (hm : X.mg x = some (.ref f)) (hk : PySem.W.keepIn X.K (.ref f) = true) (hb : Binds X.K fd ps []) (ha : JA X E (e :: es) ma)
    (hdb : (x == ("__debug__" : Str)) = false := by decide) (he : starEach (e :: es) X.env = (false, eval e X.env) :: starEach es X.env := by rfl) (hpl : (backTo pos (starEach es X.env)).any (·.1) = false := by rfl) :
    JE X E (.Call (.Name x p) (e :: es) [] pos) (mCall n G ma) := PE.weak (pe_callS F hr hg hm hk hb (fun σ => passAt tk σ) ha hdb he hpl) fun σv H Qv q => by
  obtain ⟨P, S, σ, Q, Ex, W, r, m, nq, nx⟩ := q
  refine ⟨P, S, σ, _, Ex, W, r, m, fun v H1 w S1 W1 r1 e1 m1 => ?_, nx⟩
  exact ⟨by rw [← r1.length]; exact m1.1, P, S1, w, Q, Ex, W1, r1, m1.2, nq.after e1, nx.after e1⟩
/-! ### subscripts, slices, fields, methods -/
theorem je_ix {g : Op2} (hr : IxR X (rd2 X.K g)) (ha : JE X E a ma) (hb : JE X E b mb) (hs : PlainIx b) : JE X E (.Subscript a b pos) (mOp g ma mb) := PE.weak (pe_ix hr ha hb hs) fun _ _ _ => op_weak
end
end Dn

/-! Dn: a tuple taken once, or not at all. -/
namespace Dn
open PySem PySem.Spec PyProof.Rows L2
theorem tup_times_one (ta : Addr) (vs : Array Value) (hs : Nat) (dd : Option Addr) (sl : Array (Option Value)) (u : Tok) :
    Meets (Builtin.«tuple.__mul__» ⟨[.ref ta, .int 1 u], []⟩) (fun _ R st => st.heap.get? ta = some { cls := .type "tuple", dict := dd, data := .seq vs hs, slots := sl } ∧ R (.ok (.ret (.ref ta))) st) :=
  .of_wp fun prog w A R st hyp => by
    obtain ⟨hp, g, d, tk, os⟩ := st
    obtain ⟨at_, hyp⟩ := hyp
    have f1 := AutoSeq1.idx_int
    have c1 : (vs.isEmpty || (1 : Int) == 1) = true := by simp
    wp_walk using wpAny_loadPart' at_
    repeat (first
      | (refine wpAny_ite_false (decide_eq_false (by decide)) ?_; wp_walk using wpAny_loadPart' at_)
      | (refine wpAny_ite_true (decide_eq_true c1) ?_; wp_walk using wpAny_loadPart' at_))
    exact ⟨_, rfl, hyp⟩
theorem tup_times_none (ta : Addr) (vs : Array Value) (hs : Nat) (dd : Option Addr) (sl : Array (Option Value)) (u : Tok) (ne : vs.isEmpty = false) :
    Meets (Builtin.«tuple.__mul__» ⟨[.ref ta, .int 0 u], []⟩) (fun _ R st => st.heap.get? ta = some { cls := .type "tuple", dict := dd, data := .seq vs hs, slots := sl } ∧
      R (.ok (.ret (Value.ref st.heap.objs.size))) { st with heap := st.heap.push { cls := Value.type "tuple", data := Data.seq #[] }, toks := st.toks }) :=
  .of_wp fun prog w A R st hyp => by
    obtain ⟨hp, g, d, tk, os⟩ := st
    obtain ⟨at_, hyp⟩ := hyp
    have f1 := AutoSeq1.idx_int
    have c1 : (vs.isEmpty || (0 : Int) == 1) = false := by rw [ne]; rfl
    wp_walk using wpAny_loadPart' at_
    repeat (first
      | (refine wpAny_ite_false (decide_eq_false (by decide)) ?_; wp_walk using wpAny_loadPart' at_)
      | (refine wpAny_ite_false (decide_eq_false (by rw [c1]; exact Bool.false_ne_true)) ?_; wp_walk using wpAny_loadPart' at_)
      | (refine wpAny_ite_true (by rfl) ?_; wp_walk using wpAny_loadPart' at_)
      | (refine wpAny_ite_true (by simp) ?_; wp_walk using wpAny_loadPart' at_))
    exact ⟨_, rfl, hyp⟩
def rTimes01 (K : Frg) : R2 := fun x y H Q => ∃ l k xs, x = .ref l ∧ y = .int k ∧ SqT K H l xs ∧ xs ≠ [] ∧ ((k = 1 ∧ Q (.ref l) H) ∨ (k = 0 ∧ ∀ p, H p = none → Q (.ref p) (upd H p (.tup []))))
theorem op_times01 {X : Cx} : OpR X (binaryOp .Mult) (rTimes01 X.K) := by
  intro pins st σ H x y v u Q inv rx ry hyp
  obtain ⟨l, k, xs, rfl, rfl, hT, hne, alt⟩ := hyp
  cases rx
  obtain ⟨t, rfl⟩ := ry
  obtain ⟨its, rr, ⟨⟨cls, dd, data, sl⟩, at_, hc, n, hd⟩, hs⟩ := inv.tuple hT
  simp only at hc hd
  subst hc hd
  have ne : its.toArray.isEmpty = false := by
    cases its with
    | nil => exact absurd (List.eq_nil_of_length_eq_zero (show xs.length = 0 from rr.length)) hne
    | cons a b => rfl
  rcases alt with ⟨rfl, q⟩ | ⟨rfl, q⟩
  · exact wpAny_binaryOp_repeat_ref (T := "tuple") (U := "int") (by decide) ⟨_, at_, rfl⟩ (fun s2 => typeIs_int s2 1 t) noFill_tuple_mul F.fills_int_mul F.slot_int_rmul repeat_tuple F.slot_int_index.lookup
      (call_meets F.slot_int_rmul (typeIs_int st 1 t) F.entry_int_rmul (F.args_int_rmul_2 _ _) (int_rmul_tuple 1 t l its.toArray n dd sl)
        ⟨at_, rfl, ⟨_, at_, rfl⟩, call_meets F.slot_tuple_mul ⟨_, at_, rfl⟩ F.entry_tuple_mul (F.args_tuple_mul_2 _ _) (tup_times_one l its.toArray n dd sl t) ⟨at_, .ref l, H, inv.tok _, rfl, q⟩⟩)
  · exact wpAny_binaryOp_repeat_ref (T := "tuple") (U := "int") (by decide) ⟨_, at_, rfl⟩ (fun s2 => typeIs_int s2 0 t) noFill_tuple_mul F.fills_int_mul F.slot_int_rmul repeat_tuple F.slot_int_index.lookup
      (call_meets F.slot_int_rmul (typeIs_int st 0 t) F.entry_int_rmul (F.args_int_rmul_2 _ _) (int_rmul_tuple 0 t l its.toArray n dd sl)
        ⟨at_, rfl, ⟨_, at_, rfl⟩, call_meets F.slot_tuple_mul ⟨_, at_, rfl⟩ F.entry_tuple_mul (F.args_tuple_mul_2 _ _) (tup_times_none l its.toArray n dd sl t ne)
          ⟨at_, .ref st.heap.objs.size, _, inv.laid (t' := st.toks) (o := .tup []) (fun b ob z => Heap.get?_push_of_some _ z) (Nat.le_refl _) ⟨Nat.zero_le _, [], .nil, IsTup.new _ _⟩, rfl, q _ (inv.hok.fresh (Nat.le_refl _))⟩⟩)
theorem ext_tup (la : Addr) (vs : Array Value) (n : Nat) (ta : Addr) (us : Array Value) (n2 : Nat) (dd : Option Addr) (sl : Array (Option Value)) (c0 : ¬(!vs.isEmpty && Builtin.List.listTooLong (vs.size + us.size)) = true) (c1 : vs.size ≤ sizeLine) (c2 : vs.size + us.size ≤ sizeLine + 1) :
    Meets (Builtin.«list.extend» ⟨[.ref la, .ref ta], []⟩) (fun _ R st => st.heap.get? la = some { cls := .type "list", dict := none, data := .seq vs n, slots := #[] } ∧ st.heap.get? ta = some { cls := .type "tuple", dict := dd, data := .seq us n2, slots := sl } ∧
      R (.ok (.ret Value.none)) { st with heap := st.heap.update la (Obj.mapSeq fun x => x ++ us), toks := st.toks }) :=
  .of_wp fun prog w A R st hyp => by
    obtain ⟨hp, g, d, tk, os⟩ := st
    obtain ⟨al, at_, hyp⟩ := hyp
    have f1 := AutoSeq1.idx_int
    have f2 := AutoSeq1.sub_tuple_tuple
    have f3 := AutoSeq1.sub_list_list
    have f4 := AutoSeq1.sub_tuple_list
    have f5 := AutoSeq1.sub_list_tuple
    have z2 : (vs ++ us).size ≤ sizeLine + 1 := by rw [Array.size_append]; exact c2
    wp_walk using (wpAny_updateSeq al rfl (hz := c1) (_hz' := z2)), wpAny_loadPart' al, wpAny_loadPart' at_
    exact ⟨_, rfl, hyp⟩
def rExtT (K : Frg) : V → List V → Hp → VK → Prop := fun x vs H Q => ∃ l b xs zs, x = .ref l ∧ vs = [.ref b] ∧ H l = some (.lst xs) ∧ SqT K H b zs ∧ xs.length + zs.length ≤ sizeLine ∧ Q .non (upd H l (.lst (xs ++ zs)))
theorem mt_extT {X : Cx} : MtM X "list.extend" (rExtT X.K) := by
  intro pins st σ H x vs v us Q inv rx rv hyp
  obtain ⟨l, b, xs, zs, rfl, rfl, hH, hB, hz, q⟩ := hyp
  cases rx
  obtain ⟨u, rfl, ru⟩ := rv.one
  cases ru
  obtain ⟨z, its, n, rr, hl, e⟩ := inv.lstM hH
  obtain ⟨its2, r2, ⟨⟨cls, dd, data, sl⟩, at_, hc, n2, hd⟩, hs⟩ := inv.tuple hB
  simp only at hc hd
  subst hc hd
  have hl2 : its2.length = zs.length := r2.length.symm
  have hsz : its.toArray.size + its2.toArray.size ≤ sizeLine := by rw [List.size_toArray, List.size_toArray]; omega
  have hlong : ¬ (!its.toArray.isEmpty && Builtin.List.listTooLong (its.toArray.size + its2.toArray.size)) = true := by
    rw [notLongL hsz, Bool.and_false]
    exact Bool.false_ne_true
  refine call_meets F.slot_list_extend ⟨_, e, rfl⟩ F.entry_list_extend (F.args_list_extend_2 _ _)
    (ext_tup l its.toArray n b its2.toArray n2 dd sl hlong (by rw [List.size_toArray]; omega) (by omega)) ⟨e, at_, ?_⟩
  exact ⟨.non, _, inv.lset (its' := its ++ its2) hH e (by simp) (rr.append r2) (by rw [List.length_append]; omega), rfl, q⟩
end Dn

namespace Dn
open PySem PySem.Spec PyProof.Rows L2
section
variable {K : Frg} {P : Hid} {S : Store} {H : Hp}
theorem rp_non {v : V} : Rp K P S H .non v = (v = .non) := by unfold Rp; rfl
theorem rp_bl {b : Bool} {v : V} : Rp K P S H (.bl b) v = (v = .bl b) := by unfold Rp; rfl
theorem rp_int {i : Int} {v : V} : Rp K P S H (.int i) v = (v = .int i) := by unfold Rp; rfl
theorem rp_str {x : Str} {v : V} : Rp K P S H (.str x) v = (v = .str x) := by unfold Rp; rfl
theorem rp_ty {x : String} {v : V} : Rp K P S H (.ty x) v = (v = .ty x) := by unfold Rp; rfl
theorem rp_ref {a : Addr} {v : V} : Rp K P S H (.ref a) v = (v = .ref a) := by unfold Rp; rfl
theorem rpInt {i : Int} : Rp K P S H (.int i) (.int i) := rp_int.mpr rfl
theorem rpBl {i : Bool} : Rp K P S H (.bl i) (.bl i) := rp_bl.mpr rfl
theorem rpStr {i : Str} : Rp K P S H (.str i) (.str i) := rp_str.mpr rfl
theorem rpNon : Rp K P S H .non .non := rp_non.mpr rfl
theorem rpRef {i : Addr} : Rp K P S H (.ref i) (.ref i) := rp_ref.mpr rfl
theorem rp_tup {ws : List Dt} {v : V} (h : Rp K P S H (.tup ws) v) : ∃ a xs, v = .ref a ∧ SqT K H a xs ∧ RpL K P S H ws xs := by
  unfold Rp at h
  obtain ⟨a, xs, e, f, r⟩ := h
  exact ⟨a, xs, e, sqT_of (.inl f), r⟩
theorem rp_kt {ws : List Dt} {v : V} (h : Rp K P S H (.kt ws) v) : ∃ a xs, v = .ref a ∧ KT K a xs ∧ RpL K P S H ws xs := by
  unfold Rp at h
  exact h
/-- new tuples, new frozen lists -/
theorem NQ.tup {Q : Dt → Store → Prop} {Qv : VK} (h : NQ K P S H Q Qv) (W : Wd K P S H) {ws : List Dt} {xs : List V} (r : RpL K P S H ws xs) (q : Q (.tup ws) S) {p : Addr} (hp : H p = none) : Qv (.ref p) (upd H p (.tup xs)) := by
  refine h _ _ (.tup ws) S (W.new hp) ?_ (Evo.new hp) q
  unfold Rp
  exact ⟨p, xs, rfl, Fz.new W hp, r.mono (Evo.new hp)⟩
theorem NQ.lst {Q : Dt → Store → Prop} {Qv : VK} (h : NQ K P S H Q Qv) (W : Wd K P S H) {ws : List Dt} {xs : List V} (r : RpL K P S H ws xs) (q : Q (.lst ws) S) {p : Addr} (hp : H p = none) : Qv (.ref p) (upd H p (.lst xs)) := by
  refine h _ _ (.lst ws) S (W.new hp) ?_ (Evo.new hp) q
  unfold Rp
  exact ⟨p, xs, rfl, Fz.new W hp, r.mono (Evo.new hp)⟩
theorem RpL.nilE {xs : List V} (h : RpL K P S H [] xs) : xs = [] := by unfold RpL at h; exact h
theorem RpL.nilW {ws : List Dt} (h : RpL K P S H ws []) : ws = [] := by
  have := h.length
  exact List.eq_nil_of_length_eq_zero this
theorem RpL.consE {w : Dt} {ws : List Dt} {xs : List V} (h : RpL K P S H (w :: ws) xs) : ∃ v r, xs = v :: r ∧ Rp K P S H w v ∧ RpL K P S H ws r := by unfold RpL at h; exact h
theorem RpL.one {w : Dt} {xs : List V} (h : RpL K P S H [w] xs) : ∃ v, xs = [v] ∧ Rp K P S H w v := by
  obtain ⟨v, r, e, h1, h2⟩ := h.consE
  rw [h2.nilE] at e
  exact ⟨v, e, h1⟩
theorem RpL.two {w z : Dt} {xs : List V} (h : RpL K P S H [w, z] xs) : ∃ v u, xs = [v, u] ∧ Rp K P S H w v ∧ Rp K P S H z u := by
  obtain ⟨v, r, e, h1, h2⟩ := h.consE
  obtain ⟨u, e2, h3⟩ := h2.one
  rw [e2] at e
  exact ⟨v, u, e, h1, h3⟩
/-- lists: that are changed or plain; or of the written part; lists and tuples -/
def plv (S : Store) : Dt → Option (List Dt)
  | .lst ws => some ws
  | .ref a => match S a with | some (.lst ws) => some ws | _ => none
  | _ => none
def lsv (S : Store) : Dt → Option (List Dt)
  | .lst ws => some ws
  | .kl ws => some ws
  | .ref a => match S a with | some (.lst ws) => some ws | _ => none
  | _ => none
theorem plv_of (W : Wd K P S H) {w : Dt} {v : V} {ws : List Dt} (r : Rp K P S H w v) (h : plv S w = some ws) : ∃ a xs, v = .ref a ∧ H a = some (.lst xs) ∧ RpL K P S H ws xs := by
  cases w with
  | lst us =>
    unfold Rp at r
    obtain ⟨a, xs, e, f, rl⟩ := r
    cases h
    exact ⟨a, xs, e, f.1, rl⟩
  | ref a =>
    rw [rp_ref] at r
    unfold plv at h
    dsimp only at h
    cases e : S a with
    | none => rw [e] at h; cases h
    | some o =>
      rw [e] at h
      cases o with
      | lst us =>
        cases h
        obtain ⟨xs, e2, rl⟩ := W.sim a _ e
        exact ⟨a, xs, r, e2, rl⟩
      | ins _ _ _ => cases h
      | dK _ _ => cases h
      | dT _ _ => cases h
  | _ => cases h
theorem lsv_of (W : Wd K P S H) {w : Dt} {v : V} {ws : List Dt} (r : Rp K P S H w v) (h : lsv S w = some ws) : ∃ a xs, v = .ref a ∧ SqL K H a xs ∧ RpL K P S H ws xs := by
  cases w with
  | kl us =>
    unfold Rp at r
    obtain ⟨a, xs, e, f, rl⟩ := r
    cases h
    exact ⟨a, xs, e, sqK_of f, rl⟩
  | lst us =>
    obtain ⟨a, xs, e, f, rl⟩ := plv_of W r (show plv S (.lst us) = some ws from h)
    exact ⟨a, xs, e, SqL.of f, rl⟩
  | ref a =>
    obtain ⟨a, xs, e, f, rl⟩ := plv_of W r (show plv S (.ref a) = some ws from h)
    exact ⟨a, xs, e, SqL.of f, rl⟩
  | _ => cases h
/-! ### arithmetic -/
def pyAdd : Op2
  | .int i, .int j, S, Q => Q (.int (i + j)) S
  | .str x, .str y, S, Q => x.length + y.length ≤ sizeLine ∧ Q (.str (x ++ y)) S
  | .tup x, .tup y, S, Q => x.length + y.length ≤ sizeLine ∧ Q (.tup (x ++ y)) S
  | x, y, S, Q => match plv S x, plv S y with
    | some a, some b => a.length + b.length ≤ sizeLine ∧ Q (.lst (a ++ b)) S
    | _, _ => False
def pySub : Op2
  | .int i, .int j, S, Q => Q (.int (i - j)) S
  | _, _, _, _ => False
def mulC (i j : Int) : Prop := (-(2 ^ 64) < i ∧ i < 2 ^ 64) ∨ (-(2 ^ 64) < j ∧ j < 2 ^ 64) ∨ i.natAbs.log2 + j.natAbs.log2 < 1000000
def repS (n : Nat) (x : Str) : Str := ⟨(List.replicate n x.cps.toList).flatten.toArray⟩
theorem repS_fold (n : Nat) (x : Str) : (⟨(List.replicate n x.cps).foldl (· ++ ·) #[]⟩ : Str) = repS n x := by
  have key : ∀ (n : Nat) (acc : Array Nat), (List.replicate n x.cps).foldl (· ++ ·) acc = acc ++ (List.replicate n x.cps.toList).flatten.toArray := by
    intro n
    induction n with
    | zero => intro acc; simp
    | succ n ih =>
      intro acc
      rw [List.replicate_succ, List.foldl_cons, ih, List.replicate_succ, List.flatten_cons, Array.append_assoc]
      congr 1
      apply Array.ext'
      simp
  unfold repS
  rw [key, Array.empty_append]
theorem repS_len (n : Nat) (x : Str) : (repS n x).length = n * x.length := by
  show (List.replicate n x.cps.toList).flatten.toArray.size = n * x.cps.size
  simp
def pyMul : Op2
  | .int i, .int j, S, Q => mulC i j ∧ Q (.int (i * j)) S
  | .tup x, .int k, S, Q => x ≠ [] ∧ 0 ≤ k ∧ k ≤ 1000 ∧ x.length ≤ 1000 ∧ Q (.tup (List.replicate k.toNat x).flatten) S
  | .str x, .int k, S, Q => 1 ≤ x.length ∧ x.length ≤ 1000 ∧ 2 ≤ k ∧ k ≤ 1000 ∧ Q (.str (repS k.toNat x)) S
  | x, .int k, S, Q => match plv S x with
    | some a => 0 ≤ k ∧ k < 2 ^ 63 ∧ a.length * k.toNat ≤ sizeLine ∧ Q (.lst (List.replicate k.toNat a).flatten) S
    | _ => False
  | _, _, _, _ => False
def pyMod : Op2
  | .int i, .int j, S, Q => 0 < j ∧ Q (.int (i % j)) S
  | _, _, _, _ => False
def pyFdiv : Op2
  | .int i, .int j, S, Q => (0 < j ∧ j.natAbs.log2 < 9000) ∧ Q (.int (i / j)) S
  | _, _, _, _ => False
def pyPow : Op2
  | .int i, .int j, S, Q => (0 ≤ j ∧ j ≤ 1000000 ∧ i.natAbs < 2 ^ 64) ∧ Q (.int (i ^ j.toNat)) S
  | _, _, _, _ => False
def pyNeg : Op1
  | .int i, S, Q => Q (.int (-i)) S
  | _, _, _ => False
theorem RpL.flat {ws : List Dt} {xs : List V} (r : RpL K P S H ws xs) : ∀ n : Nat, RpL K P S H (List.replicate n ws).flatten (List.replicate n xs).flatten
  | 0 => RpL.nil
  | n + 1 => by
    rw [List.replicate_succ, List.replicate_succ, List.flatten_cons, List.flatten_cons]
    exact r.append (RpL.flat r n)
end
section
variable {X : Cx} {E : WX}
theorem o_add : OpR X (binaryOp .Add) (rd2 X.K pyAdd) := by
  intro pins s σ H x y v u Qv I rx ry h
  obtain ⟨P, S, w, z, Q, W, r1, r2, g, nq⟩ := h
  unfold pyAdd at g
  split at g
  · rename_i i j
    rw [rp_int] at r1 r2
    exact op_add pins s σ H x y v u Qv I rx ry ⟨i, j, r1, r2, nq.now W rpInt g⟩
  · rename_i i j
    rw [rp_str] at r1 r2
    exact op_add_str pins s σ H x y v u Qv I rx ry ⟨i, j, r1, r2, g.1, nq.now W rpStr g.2⟩
  · rename_i i j
    obtain ⟨a, xs, rfl, h1, rl1⟩ := rp_tup r1
    obtain ⟨b, ys, rfl, h2, rl2⟩ := rp_tup r2
    refine op_catA pins s σ H _ _ v u Qv I rx ry ⟨a, b, xs, ys, rfl, rfl, h1, h2, by rw [← rl1.length, ← rl2.length]; exact g.1, fun e => ?_, fun e1 e2 => ?_, fun e1 e2 p hp => ?_⟩
    · subst e
      have e3 := rl1.nilW
      subst e3
      exact nq.now W r2 g.2
    · subst e2
      have e3 := rl2.nilW
      subst e3
      rw [List.append_nil] at g
      exact nq.now W r1 g.2
    · exact nq.tup W (rl1.append rl2) g.2 hp
  · split at g
    · rename_i a b ea eb
      obtain ⟨p, xs, rfl, h1, rl1⟩ := plv_of W r1 ea
      obtain ⟨q, ys, rfl, h2, rl2⟩ := plv_of W r2 eb
      exact op_cat pins s σ H _ _ v u Qv I rx ry ⟨p, q, xs, ys, rfl, rfl, h1, h2, by rw [← rl1.length, ← rl2.length]; exact g.1, fun p hp => nq.lst W (rl1.append rl2) g.2 hp⟩
    · exact g.elim
theorem o_sub : OpR X (binaryOp .Sub) (rd2 X.K pySub) := by
  intro pins s σ H x y v u Qv I rx ry h
  obtain ⟨P, S, w, z, Q, W, r1, r2, g, nq⟩ := h
  unfold pySub at g
  split at g
  · rename_i i j
    rw [rp_int] at r1 r2
    exact op_sub pins s σ H x y v u Qv I rx ry ⟨i, j, r1, r2, nq.now W rpInt g⟩
  · exact g.elim
theorem o_mul : OpR X (binaryOp .Mult) (rd2 X.K pyMul) := by
  intro pins s σ H x y v u Qv I rx ry h
  obtain ⟨P, S, w, z, Q, W, r1, r2, g, nq⟩ := h
  unfold pyMul at g
  split at g
  · rename_i i j
    rw [rp_int] at r1 r2
    rcases g.1 with c | c | c
    · exact op_mul pins s σ H x y v u Qv I rx ry ⟨i, j, r1, r2, .inl c, nq.now W rpInt g.2⟩
    · exact op_mul pins s σ H x y v u Qv I rx ry ⟨i, j, r1, r2, .inr c, nq.now W rpInt g.2⟩
    · exact op_mulW pins s σ H x y v u Qv I rx ry ⟨i, j, r1, r2, c, nq.now W rpInt g.2⟩
  · rename_i ws k
    obtain ⟨a, xs, rfl, h1, rl1⟩ := rp_tup r1
    rw [rp_int] at r2
    obtain ⟨g1, g2, g3, g4, g5⟩ := g
    have hne : xs ≠ [] := fun e => g1 (by subst e; exact rl1.nilW)
    by_cases k0 : k = 0
    · subst k0
      exact op_times01 pins s σ H _ _ v u Qv I rx ry ⟨a, 0, xs, rfl, r2, h1, hne, .inr ⟨rfl, fun p hp => nq.tup W RpL.nil g5 hp⟩⟩
    · by_cases k1 : k = 1
      · subst k1
        refine op_times01 pins s σ H _ _ v u Qv I rx ry ⟨a, 1, xs, rfl, r2, h1, hne, .inl ⟨rfl, ?_⟩⟩
        have e1 : (List.replicate (1 : Int).toNat ws).flatten = ws := by simp
        rw [e1] at g5
        exact nq.now W (by assumption) g5
      · exact op_repT pins s σ H _ _ v u Qv I rx ry ⟨a, k, xs, rfl, r2, h1, hne, by omega, g3, by rw [← rl1.length]; exact g4, fun p hp => nq.tup W (rl1.flat _) g5 hp⟩
  · rename_i z k
    rw [rp_int] at r2
    rw [rp_str] at r1
    subst r1 r2
    obtain ⟨g1, g2, g3, g4, g5⟩ := g
    obtain ⟨t, rfl⟩ := rx
    obtain ⟨t', rfl⟩ := ry
    have hb : z.length * k.toNat ≤ 1000000 := Nat.mul_le_mul g2 (by omega : k.toNat ≤ 1000)
    refine PySem.P.mul_str (by rw [decide_eq_false (by omega), decide_eq_false (by omega)]; rfl) (fun _ _ => ?_) (fun _ _ => ?_) ?_
    · have : (1000 : Int) ≤ (2 ^ 63 - 1) / k := by
        rw [Int.le_ediv_iff_mul_le (by omega)]
        omega
      omega
    · unfold PySem.Builtin.Str.tooLong
      rw [sizeLine_eq]
      exact decide_eq_false (by omega)
    · rw [if_neg (by omega), if_neg (by
        rw [Bool.or_eq_true, beq_iff_eq, beq_iff_eq]
        omega), repS_fold]
      refine ⟨?_, .str (repS k.toNat z), H, I.tok _, ⟨_, rfl⟩, nq.now W rpStr g5⟩
      rw [repS_len, sizeLine_eq, Nat.mul_comm]
      omega
  · rename_i k hne hne2 hne3
    split at g
    · rename_i a ea
      obtain ⟨p, xs, rfl, h1, rl1⟩ := plv_of W r1 ea
      rw [rp_int] at r2
      obtain ⟨g1, g2, g3, g4⟩ := g
      exact op_rep pins s σ H _ _ v u Qv I rx ry ⟨p, _, xs, rfl, r2, h1, by omega, g2, by rw [← rl1.length]; exact g3, fun p hp => nq.lst W (rl1.flat _) g4 hp⟩
    · exact g.elim
  · exact g.elim
theorem o_mod : OpR X (binaryOp .Mod) (rd2 X.K pyMod) := by
  intro pins s σ H x y v u Qv I rx ry h
  obtain ⟨P, S, w, z, Q, W, r1, r2, g, nq⟩ := h
  unfold pyMod at g
  split at g
  · rename_i i j
    rw [rp_int] at r1 r2
    exact op_mod pins s σ H x y v u Qv I rx ry ⟨i, j, r1, r2, g.1, nq.now W rpInt g.2⟩
  · exact g.elim
theorem o_fdiv : OpR X (binaryOp .FloorDiv) (rd2 X.K pyFdiv) := by
  intro pins s σ H x y v u Qv I rx ry h
  obtain ⟨P, S, w, z, Q, W, r1, r2, g, nq⟩ := h
  unfold pyFdiv at g
  split at g
  · rename_i i j
    rw [rp_int] at r1 r2
    exact op_fdivW pins s σ H x y v u Qv I rx ry ⟨i, j, r1, r2, g.1, nq.now W rpInt g.2⟩
  · exact g.elim
theorem o_pow : OpR X (binaryOp .Pow) (rd2 X.K pyPow) := by
  intro pins s σ H x y v u Qv I rx ry h
  obtain ⟨P, S, w, z, Q, W, r1, r2, g, nq⟩ := h
  unfold pyPow at g
  split at g
  · rename_i i j
    rw [rp_int] at r1 r2
    exact op_pow pins s σ H x y v u Qv I rx ry ⟨i, j, r1, r2, g.1, nq.now W rpInt g.2⟩
  · exact g.elim
theorem o_neg : UnR X (unaryOp .USub) (rd1 X.K pyNeg) := by
  intro pins s σ H x v Qv I rx h
  obtain ⟨P, S, w, Q, W, r1, g, nq⟩ := h
  unfold pyNeg at g
  split at g
  · rename_i i
    rw [rp_int] at r1
    exact un_neg pins s σ H x v Qv I rx ⟨i, r1, nq.now W rpInt g⟩
  · exact g.elim
/-! ### comparisons -/
def pyRel (p : Int → Int → Bool) : Op2
  | .int i, .int j, S, Q => Q (.bl (p i j)) S
  | _, _, _, _ => False
def pyLt : Op2
  | .int i, .int j, S, Q => Q (.bl (decide (i < j))) S
  | _, _, _, _ => False
def pyLe : Op2
  | .int i, .int j, S, Q => Q (.bl (decide (i ≤ j))) S
  | _, _, _, _ => False
def pyGt : Op2
  | .int i, .int j, S, Q => Q (.bl (decide (j < i))) S
  | _, _, _, _ => False
def pyGe : Op2
  | .int i, .int j, S, Q => Q (.bl (decide (j ≤ i))) S
  | _, _, _, _ => False
theorem o_rel {f : Value → Value → Sem Value} {p : Int → Int → Bool} (h : OpR X f (rI0 fun i j => .bl (p i j))) : OpR X f (rd2 X.K (pyRel p)) := by
  intro pins s σ H x y v u Qv I rx ry q
  obtain ⟨P, S, w, z, Q, W, r1, r2, g, nq⟩ := q
  unfold pyRel at g
  split at g
  · rename_i i j
    rw [rp_int] at r1 r2
    exact h pins s σ H x y v u Qv I rx ry ⟨i, j, r1, r2, nq.now W rpBl g⟩
  · exact g.elim
theorem o_lt : OpR X (compareOp .Lt) (rd2 X.K pyLt) := o_rel op_lt
theorem o_le : OpR X (compareOp .LtE) (rd2 X.K pyLe) := o_rel op_le
theorem o_gt : OpR X (compareOp .Gt) (rd2 X.K pyGt) := o_rel op_gt
theorem o_ge : OpR X (compareOp .GtE) (rd2 X.K pyGe) := o_rel op_ge
/-- is: None, True, False -/
def isNon : Dt → Bool
  | .non => true
  | _ => false
def isBlW : Dt → Bool → Bool
  | .bl a, b => a == b
  | _, _ => false
def pyIs : Op2
  | x, .non, S, Q => Q (.bl (isNon x)) S
  | x, .bl b, S, Q => Q (.bl (isBlW x b)) S
  | _, _, _, _ => False
def pyIsNot : Op2
  | x, .non, S, Q => Q (.bl (!isNon x)) S
  | x, .bl b, S, Q => Q (.bl (!isBlW x b)) S
  | _, _, _, _ => False
theorem rp_isnon {K : Frg} {P : Hid} {S : Store} {H : Hp} {w : Dt} {v : V} (r : Rp K P S H w v) : decide (v = .non) = isNon w := by
  cases w with
  | non => rw [rp_non] at r; subst r; rfl
  | bl b => rw [rp_bl] at r; subst r; rfl
  | int b => rw [rp_int] at r; subst r; rfl
  | str b => rw [rp_str] at r; subst r; rfl
  | ty b => rw [rp_ty] at r; subst r; rfl
  | ref b => rw [rp_ref] at r; subst r; rfl
  | tup ws => unfold Rp at r; obtain ⟨a, xs, rfl, _⟩ := r; rfl
  | lst ws => unfold Rp at r; obtain ⟨a, xs, rfl, _⟩ := r; rfl
  | kl ws => unfold Rp at r; obtain ⟨a, xs, rfl, _⟩ := r; rfl
  | ins C ns ws => unfold Rp at r; obtain ⟨a, dx, xs, rfl, _⟩ := r; rfl
  | dK ks ws => unfold Rp at r; obtain ⟨a, xs, rfl, _⟩ := r; rfl
  | dT ks ws => unfold Rp at r; obtain ⟨a, xs, rfl, _⟩ := r; rfl
  | exn a dd ns ws => unfold Rp at r; obtain ⟨xs, rfl, _⟩ := r; rfl
  | kt ws => unfold Rp at r; obtain ⟨a, xs, rfl, _⟩ := r; rfl
theorem rp_isbl {K : Frg} {P : Hid} {S : Store} {H : Hp} {w : Dt} {v : V} {b : Bool} (r : Rp K P S H w v) : decide (v = .bl b) = isBlW w b := by
  cases w with
  | bl a => rw [rp_bl] at r; subst r; cases a <;> cases b <;> rfl
  | non => rw [rp_non] at r; subst r; rfl
  | int b => rw [rp_int] at r; subst r; rfl
  | str b => rw [rp_str] at r; subst r; rfl
  | ty b => rw [rp_ty] at r; subst r; rfl
  | ref b => rw [rp_ref] at r; subst r; rfl
  | tup ws => unfold Rp at r; obtain ⟨a, xs, rfl, _⟩ := r; rfl
  | lst ws => unfold Rp at r; obtain ⟨a, xs, rfl, _⟩ := r; rfl
  | kl ws => unfold Rp at r; obtain ⟨a, xs, rfl, _⟩ := r; rfl
  | ins C ns ws => unfold Rp at r; obtain ⟨a, dx, xs, rfl, _⟩ := r; rfl
  | dK ks ws => unfold Rp at r; obtain ⟨a, xs, rfl, _⟩ := r; rfl
  | dT ks ws => unfold Rp at r; obtain ⟨a, xs, rfl, _⟩ := r; rfl
  | exn a dd ns ws => unfold Rp at r; obtain ⟨xs, rfl, _⟩ := r; rfl
  | kt ws => unfold Rp at r; obtain ⟨a, xs, rfl, _⟩ := r; rfl
theorem is_bool {M : Model} {A : Around} {E : Value → Shared → Prop} {s : Shared} {Q : Value → Shared → Prop} {x : V} {v : Value} {b : Bool} (rx : L2.RelV x v) (q : Q (.bool (decide (x = .bl b))) s) : wpAny M A (compareOp .Is v (.bool b)) Q E s := by
  cases x with
  | bl a =>
    cases rx
    by_cases e : a = b
    · subst e
      exact wpAny_is_self rfl (by simpa using q)
    · exact wpAny_is_other rfl (fun z => e (Value.bool.inj z)) (by simpa [e] using q)
  | non => cases rx; exact wpAny_is_other rfl (fun z => nomatch z) q
  | int i => obtain ⟨t, rfl⟩ := rx; exact wpAny_is_other rfl (fun z => nomatch z) q
  | str i => obtain ⟨t, rfl⟩ := rx; exact wpAny_is_other rfl (fun z => nomatch z) q
  | byt i => obtain ⟨t, rfl⟩ := rx; exact wpAny_is_other rfl (fun z => nomatch z) q
  | flt i => obtain ⟨t, rfl⟩ := rx; exact wpAny_is_other rfl (fun z => nomatch z) q
  | ref a => cases rx; exact wpAny_is_other rfl (fun z => nomatch z) q
  | ty a => cases rx; exact wpAny_is_other rfl (fun z => nomatch z) q
theorem isnot_bool {M : Model} {A : Around} {E : Value → Shared → Prop} {s : Shared} {Q : Value → Shared → Prop} {x : V} {v : Value} {b : Bool} (rx : L2.RelV x v) (q : Q (.bool (!decide (x = .bl b))) s) : wpAny M A (compareOp .IsNot v (.bool b)) Q E s := by
  cases x with
  | bl a =>
    cases rx
    by_cases e : a = b
    · subst e
      exact wpAny_isNot_self rfl (by simpa using q)
    · exact wpAny_isNot_other rfl (fun z => e (Value.bool.inj z)) (by simpa [e] using q)
  | non => cases rx; exact wpAny_isNot_other rfl (fun z => nomatch z) q
  | int i => obtain ⟨t, rfl⟩ := rx; exact wpAny_isNot_other rfl (fun z => nomatch z) q
  | str i => obtain ⟨t, rfl⟩ := rx; exact wpAny_isNot_other rfl (fun z => nomatch z) q
  | byt i => obtain ⟨t, rfl⟩ := rx; exact wpAny_isNot_other rfl (fun z => nomatch z) q
  | flt i => obtain ⟨t, rfl⟩ := rx; exact wpAny_isNot_other rfl (fun z => nomatch z) q
  | ref a => cases rx; exact wpAny_isNot_other rfl (fun z => nomatch z) q
  | ty a => cases rx; exact wpAny_isNot_other rfl (fun z => nomatch z) q
theorem o_is : OpR X (compareOp .Is) (rd2 X.K pyIs) := by
  intro pins s σ H x y v u Qv I rx ry q
  obtain ⟨P, S, w, z, Q, W, r1, r2, g, nq⟩ := q
  unfold pyIs at g
  split at g
  · rw [rp_non] at r2
    refine op_isN pins s σ H x y v u Qv I rx ry ⟨r2, ?_⟩
    rw [rp_isnon r1]
    exact nq.now W rpBl g
  · rw [rp_bl] at r2
    subst r2
    cases ry
    refine is_bool rx ?_
    rw [rp_isbl r1]
    exact ⟨.bl _, H, I, rfl, nq.now W rpBl g⟩
  · exact g.elim
theorem o_isnot : OpR X (compareOp .IsNot) (rd2 X.K pyIsNot) := by
  intro pins s σ H x y v u Qv I rx ry q
  obtain ⟨P, S, w, z, Q, W, r1, r2, g, nq⟩ := q
  unfold pyIsNot at g
  split at g
  · rw [rp_non] at r2
    refine op_notN pins s σ H x y v u Qv I rx ry ⟨r2, ?_⟩
    rw [rp_isnon r1]
    exact nq.now W rpBl g
  · rw [rp_bl] at r2
    subst r2
    cases ry
    refine isnot_bool rx ?_
    rw [rp_isbl r1]
    exact ⟨.bl _, H, I, rfl, nq.now W rpBl g⟩
  · exact g.elim
end
/-- plain data, for == -/
def toP : Dt → Option PyData
  | .non => some .none
  | .bl b => some (.bool b)
  | .int i => some (.int i)
  | .str x => some (.str x)
  | .tup ws => (toPL ws).map .tuple
  | .lst ws => (toPL ws).map .list
  | .kl ws => (toPL ws).map .list
  | _ => none
where toPL : List Dt → Option (List PyData)
  | [] => some []
  | w :: ws => match toP w, toPL ws with
    | some d, some ds => some (d :: ds)
    | _, _ => none
section
variable {K : Frg} {P : Hid} {S : Store} {H : Hp}
mutual
theorem toP_of : ∀ (w : Dt) (v : V) (d : PyData), Rp K P S H w v → toP w = some d → Dp K H v d
  | .non, v, d, r, e => by rw [rp_non] at r; subst r; unfold toP at e; cases e; exact .non
  | .bl b, v, d, r, e => by rw [rp_bl] at r; subst r; unfold toP at e; cases e; exact .bl b
  | .int b, v, d, r, e => by rw [rp_int] at r; subst r; unfold toP at e; cases e; exact .int b
  | .str b, v, d, r, e => by rw [rp_str] at r; subst r; unfold toP at e; cases e; exact .str b
  | .tup ws, v, d, r, e => by
    obtain ⟨a, xs, rfl, h1, rl⟩ := rp_tup r
    unfold toP at e
    cases q : toP.toPL ws with
    | none => rw [q] at e; cases e
    | some ds =>
      rw [q] at e
      cases e
      exact .tup h1 (toPL_of ws xs ds rl q)
  | .lst ws, v, d, r, e => by
    unfold Rp at r
    obtain ⟨a, xs, rfl, h1, rl⟩ := r
    unfold toP at e
    cases q : toP.toPL ws with
    | none => rw [q] at e; cases e
    | some ds =>
      rw [q] at e
      cases e
      exact .lst h1.sqL (toPL_of ws xs ds rl q)
  | .kl ws, v, d, r, e => by
    unfold Rp at r
    obtain ⟨a, xs, rfl, h1, rl⟩ := r
    unfold toP at e
    cases q : toP.toPL ws with
    | none => rw [q] at e; cases e
    | some ds =>
      rw [q] at e
      cases e
      exact .lst (sqK_of h1) (toPL_of ws xs ds rl q)
  | .ty _, v, d, r, e => by unfold toP at e; cases e
  | .ref _, v, d, r, e => by unfold toP at e; cases e
  | .ins _ _ _, v, d, r, e => by unfold toP at e; cases e
  | .dK _ _, v, d, r, e => by unfold toP at e; cases e
  | .dT _ _, v, d, r, e => by unfold toP at e; cases e
  | .exn _ _ _ _, v, d, r, e => by unfold toP at e; cases e
  | .kt _, v, d, r, e => by unfold toP at e; cases e
theorem toPL_of : ∀ (ws : List Dt) (xs : List V) (ds : List PyData), RpL K P S H ws xs → toP.toPL ws = some ds → DpAll K H xs ds
  | [], xs, ds, r, e => by rw [r.nilE]; unfold toP.toPL at e; cases e; exact .nil
  | w :: ws, xs, ds, r, e => by
    obtain ⟨v, t, rfl, h1, h2⟩ := r.consE
    unfold toP.toPL at e
    cases q1 : toP w with
    | none => rw [q1] at e; cases e
    | some d =>
      cases q2 : toP.toPL ws with
      | none => rw [q1, q2] at e; cases e
      | some es =>
        rw [q1, q2] at e
        cases e
        exact .cons (toP_of w v d h1 q1) (toPL_of ws t es h2 q2)
end
end
mutual
/-- == of plain data -/
def eqD : Dt → Dt → Bool
  | .non, .non => true
  | .bl a, .bl b => a == b
  | .bl a, .int j => decide ((if a then (1 : Int) else 0) = j)
  | .int i, .bl b => decide (i = (if b then (1 : Int) else 0))
  | .int i, .int j => decide (i = j)
  | .str x, .str y => decide (x = y)
  | .tup as, .tup bs => eqDL as bs
  | .lst as, .lst bs => eqDL as bs
  | .lst as, .kl bs => eqDL as bs
  | .kl as, .lst bs => eqDL as bs
  | .kl as, .kl bs => eqDL as bs
  | _, _ => false
def eqDL : List Dt → List Dt → Bool
  | [], [] => true
  | a :: as, b :: bs => eqD a b && eqDL as bs
  | [], _ :: _ => false
  | _ :: _, [] => false
end
/-- plain, at most k deep -/
def fl : Nat → Dt → Bool
  | _, .non | _, .bl _ | _, .int _ => true
  | _, .str x => (PyData.str x).canLay0
  | k + 1, .tup ws | k + 1, .lst ws | k + 1, .kl ws => ws.all (fl k)
  | _, _ => false
theorem toPL_nil : toP.toPL [] = some [] := by unfold toP.toPL; rfl
theorem fl_list {k : Nat} (h : ∀ w, fl k w = true → ∃ d, toP w = some d ∧ d.canLay0 = true ∧ d.depth ≤ k) : ∀ ws : List Dt, ws.all (fl k) = true → ∃ ds, toP.toPL ws = some ds ∧ PyData.canLayAll0 ds = true ∧ PyData.depthAll ds ≤ k
  | [], _ => ⟨[], toPL_nil, by unfold PyData.canLayAll0; rfl, by unfold PyData.depthAll; omega⟩
  | w :: ws, q => by
    rw [List.all_cons, Bool.and_eq_true] at q
    obtain ⟨d, e1, c1, d1⟩ := h w q.1
    obtain ⟨ds, e2, c2, d2⟩ := fl_list h ws q.2
    refine ⟨d :: ds, by unfold toP.toPL; rw [e1, e2], ?_, ?_⟩
    · unfold PyData.canLayAll0
      rw [c1, c2]
      rfl
    · unfold PyData.depthAll
      omega
theorem fl_toP : ∀ (k : Nat) (w : Dt), fl k w = true → ∃ d, toP w = some d ∧ d.canLay0 = true ∧ d.depth ≤ k
  | _, .non, _ => ⟨.none, by unfold toP; rfl, by unfold PyData.canLay0; rfl, by unfold PyData.depth; omega⟩
  | _, .bl b, _ => ⟨.bool b, by unfold toP; rfl, by unfold PyData.canLay0; rfl, by unfold PyData.depth; omega⟩
  | _, .int b, _ => ⟨.int b, by unfold toP; rfl, by unfold PyData.canLay0; rfl, by unfold PyData.depth; omega⟩
  | k, .str b, h => ⟨.str b, by unfold toP; rfl, by cases k <;> exact h, by unfold PyData.depth; omega⟩
  | 0, .tup ws, h => by cases h
  | 0, .lst ws, h => by cases h
  | 0, .kl ws, h => by cases h
  | k + 1, .tup ws, h => by
    obtain ⟨ds, e, c, d⟩ := fl_list (fl_toP k) ws h
    refine ⟨.tuple ds, by unfold toP; rw [e]; rfl, by unfold PyData.canLay0; exact c, by unfold PyData.depth; omega⟩
  | k + 1, .lst ws, h => by
    obtain ⟨ds, e, c, d⟩ := fl_list (fl_toP k) ws h
    refine ⟨.list ds, by unfold toP; rw [e]; rfl, by unfold PyData.canLay0; exact c, by unfold PyData.depth; omega⟩
  | k + 1, .kl ws, h => by
    obtain ⟨ds, e, c, d⟩ := fl_list (fl_toP k) ws h
    refine ⟨.list ds, by unfold toP; rw [e]; rfl, by unfold PyData.canLay0; exact c, by unfold PyData.depth; omega⟩
  | 0, .ty _, h | 0, .ref _, h | 0, .ins _ _ _, h | 0, .dK _ _, h | 0, .dT _ _, h | 0, .exn _ _ _ _, h | 0, .kt _, h => by cases h
  | _ + 1, .ty _, h | _ + 1, .ref _, h | _ + 1, .ins _ _ _, h | _ + 1, .dK _ _, h | _ + 1, .dT _ _, h | _ + 1, .exn _ _ _ _, h | _ + 1, .kt _, h => by cases h
theorem toP_tup {ws : List Dt} {d : PyData} (h : toP (.tup ws) = some d) : ∃ ds, toP.toPL ws = some ds ∧ d = .tuple ds := by
  unfold toP at h
  cases e : toP.toPL ws with
  | none => rw [e] at h; cases h
  | some ds => rw [e] at h; cases h; exact ⟨ds, rfl, rfl⟩
theorem toP_lst {ws : List Dt} {d : PyData} (h : toP (.lst ws) = some d ∨ toP (.kl ws) = some d) : ∃ ds, toP.toPL ws = some ds ∧ d = .list ds := by
  rcases h with h | h <;>
  · unfold toP at h
    cases e : toP.toPL ws with
    | none => rw [e] at h; cases h
    | some ds => rw [e] at h; cases h; exact ⟨ds, rfl, rfl⟩
theorem toPL_cons {w : Dt} {ws : List Dt} {ds : List PyData} (h : toP.toPL (w :: ws) = some ds) : ∃ d es, toP w = some d ∧ toP.toPL ws = some es ∧ ds = d :: es := by
  unfold toP.toPL at h
  cases e1 : toP w with
  | none => rw [e1] at h; cases h
  | some d =>
    cases e2 : toP.toPL ws with
    | none => rw [e1, e2] at h; cases h
    | some es => rw [e1, e2] at h; cases h; exact ⟨d, es, rfl, rfl, rfl⟩
theorem eqv_list {n : Nat} (ih : ∀ (a b : Dt) (d e : PyData), sizeOf a < n → toP a = some d → toP b = some e → PyData.eqv d e = eqD a b) : ∀ (as bs : List Dt) (ds es : List PyData), sizeOf as < n → toP.toPL as = some ds → toP.toPL bs = some es → PyData.eqvAll ds es = eqDL as bs
  | [], [], ds, es, _, h1, h2 => by
    rw [toPL_nil] at h1 h2
    cases h1; cases h2
    unfold PyData.eqvAll eqDL
    rfl
  | [], b :: bs, ds, es, _, h1, h2 => by
    rw [toPL_nil] at h1
    cases h1
    obtain ⟨d, es, _, _, rfl⟩ := toPL_cons h2
    unfold PyData.eqvAll eqDL
    rfl
  | a :: as, [], ds, es, _, h1, h2 => by
    rw [toPL_nil] at h2
    cases h2
    obtain ⟨d, es, _, _, rfl⟩ := toPL_cons h1
    unfold PyData.eqvAll eqDL
    rfl
  | a :: as, b :: bs, ds, es, hs, h1, h2 => by
    obtain ⟨d, ds, e1, e2, rfl⟩ := toPL_cons h1
    obtain ⟨e, es, f1, f2, rfl⟩ := toPL_cons h2
    rw [List.cons.sizeOf_spec] at hs
    unfold PyData.eqvAll eqDL
    rw [ih a b d e (by omega) e1 f1, eqv_list ih as bs ds es (by omega) e2 f2]
theorem eqv_eqD : ∀ (n : Nat) (a b : Dt) (d e : PyData), sizeOf a < n → toP a = some d → toP b = some e → PyData.eqv d e = eqD a b
  | 0, a, b, d, e, h, _, _ => absurd h (Nat.not_lt_zero _)
  | n + 1, a, b, d, e, hs, h1, h2 => by
    cases a <;> first | (unfold toP at h1; cases h1; done) | skip
    all_goals cases b <;> first | (unfold toP at h2; cases h2; done) | skip
    all_goals first
      | (unfold toP at h1 h2; cases h1; cases h2; unfold PyData.eqv eqD; first | rfl | simp [BEq.beq] | (rename_i x y; by_cases z : x = y <;> simp [z]))
      | (obtain ⟨ds, q1, rfl⟩ := toP_tup h1; obtain ⟨es, q2, rfl⟩ := toP_tup h2; unfold PyData.eqv eqD; rename_i as bs; exact eqv_list (n := n) (fun a b d e z => eqv_eqD n a b d e z) as bs ds es (by simp only [Dt.tup.sizeOf_spec] at hs; omega) q1 q2)
      | (obtain ⟨ds, q1, rfl⟩ := toP_lst (.inl h1); obtain ⟨es, q2, rfl⟩ := toP_lst (.inl h2); unfold PyData.eqv eqD; rename_i as bs; exact eqv_list (n := n) (fun a b d e z => eqv_eqD n a b d e z) as bs ds es (by simp only [Dt.lst.sizeOf_spec] at hs; omega) q1 q2)
      | (obtain ⟨ds, q1, rfl⟩ := toP_lst (.inl h1); obtain ⟨es, q2, rfl⟩ := toP_lst (.inr h2); unfold PyData.eqv eqD; rename_i as bs; exact eqv_list (n := n) (fun a b d e z => eqv_eqD n a b d e z) as bs ds es (by simp only [Dt.lst.sizeOf_spec] at hs; omega) q1 q2)
      | (obtain ⟨ds, q1, rfl⟩ := toP_lst (.inr h1); obtain ⟨es, q2, rfl⟩ := toP_lst (.inl h2); unfold PyData.eqv eqD; rename_i as bs; exact eqv_list (n := n) (fun a b d e z => eqv_eqD n a b d e z) as bs ds es (by simp only [Dt.kl.sizeOf_spec] at hs; omega) q1 q2)
      | (obtain ⟨ds, q1, rfl⟩ := toP_lst (.inr h1); obtain ⟨es, q2, rfl⟩ := toP_lst (.inr h2); unfold PyData.eqv eqD; rename_i as bs; exact eqv_list (n := n) (fun a b d e z => eqv_eqD n a b d e z) as bs ds es (by simp only [Dt.kl.sizeOf_spec] at hs; omega) q1 q2)
      | (obtain ⟨ds, q1, rfl⟩ := toP_tup h1; unfold toP at h2; cases h2; unfold PyData.eqv eqD; rfl)
      | (obtain ⟨ds, q1, rfl⟩ := toP_tup h2; unfold toP at h1; cases h1; unfold PyData.eqv eqD; rfl)
      | (obtain ⟨ds, q1, rfl⟩ := toP_lst (.inl h1); unfold toP at h2; cases h2; unfold PyData.eqv eqD; rfl)
      | (obtain ⟨ds, q1, rfl⟩ := toP_lst (.inr h1); unfold toP at h2; cases h2; unfold PyData.eqv eqD; rfl)
      | (obtain ⟨ds, q1, rfl⟩ := toP_lst (.inl h2); unfold toP at h1; cases h1; unfold PyData.eqv eqD; rfl)
      | (obtain ⟨ds, q1, rfl⟩ := toP_lst (.inr h2); unfold toP at h1; cases h1; unfold PyData.eqv eqD; rfl)
      | (obtain ⟨ds, q1, rfl⟩ := toP_tup h1; obtain ⟨es, q2, rfl⟩ := toP_lst (.inl h2); unfold PyData.eqv eqD; rfl)
      | (obtain ⟨ds, q1, rfl⟩ := toP_tup h1; obtain ⟨es, q2, rfl⟩ := toP_lst (.inr h2); unfold PyData.eqv eqD; rfl)
      | (obtain ⟨ds, q1, rfl⟩ := toP_lst (.inl h1); obtain ⟨es, q2, rfl⟩ := toP_tup h2; unfold PyData.eqv eqD; rfl)
      | (obtain ⟨ds, q1, rfl⟩ := toP_lst (.inr h1); obtain ⟨es, q2, rfl⟩ := toP_tup h2; unfold PyData.eqv eqD; rfl)
def pyEq : Op2
  | .int i, .int j, S, Q => Q (.bl (decide (i = j))) S
  | .bl i, .bl j, S, Q => Q (.bl (i == j)) S
  | .str i, .str j, S, Q => Q (.bl (decide (i = j))) S
  | x, y, S, Q => fl 60 x = true ∧ fl 60 y = true ∧ Q (.bl (eqD x y)) S
theorem fl_shaped {w : Dt} (h : fl 60 w = true) : ∃ d, toP w = some d ∧ SeqAt.shaped d = true := by
  obtain ⟨d, e, c, z⟩ := fl_toP 60 w h
  exact ⟨d, e, by unfold SeqAt.shaped; rw [c, decide_eq_true (show d.depth ≤ 64 by omega)]; rfl⟩
def pyNe : Op2 := fun x y S Q => pyEq x y S (fun w S1 => match w with | .bl b => Q (.bl (!b)) S1 | _ => False)
section
variable {X : Cx} {E : WX}
theorem vbl {a b : Bool} : decide (V.bl a = V.bl b) = (a == b) := by cases a <;> cases b <;> rfl
theorem o_eq (hu : X.A.units + 64 < cLine) : OpR X (compareOp .Eq) (rd2 X.K pyEq) := by
  intro pins s σ H x y v u Qv I rx ry q
  obtain ⟨P, S, w, z, Q, W, r1, r2, g, nq⟩ := q
  unfold pyEq at g
  split at g
  · rename_i a b
    rw [rp_int] at r1 r2
    subst r1 r2
    refine op_eq pins s σ H _ _ v u Qv I rx ry ⟨rfl, ?_⟩
    rw [dec_int]
    rw [show (a == b) = decide (a = b) from by simp [BEq.beq]]
    exact nq.now W rpBl g
  · rename_i a b
    rw [rp_bl] at r1 r2
    subst r1 r2
    refine op_eq pins s σ H _ _ v u Qv I rx ry ⟨rfl, ?_⟩
    rw [vbl]
    exact nq.now W rpBl g
  · rename_i a b
    rw [rp_str] at r1 r2
    subst r1 r2
    refine op_eq pins s σ H _ _ v u Qv I rx ry ⟨rfl, ?_⟩
    rw [show decide (V.str a = V.str b) = decide (a = b) from by by_cases e : a = b <;> simp [e]]
    exact nq.now W rpBl g
  · obtain ⟨d, ed, sd⟩ := fl_shaped g.1
    obtain ⟨e, ee, se⟩ := fl_shaped g.2.1
    exact op_eqD hu pins s σ H x y v u Qv I rx ry ⟨d, e, toP_of _ _ _ r1 ed, toP_of _ _ _ r2 ee, sd, se, by rw [eqv_eqD _ _ _ d e (Nat.lt_succ_self _) ed ee]; exact nq.now W rpBl g.2.2⟩
theorem o_ne (hu : X.A.units + 64 < cLine) : OpR X (compareOp .NotEq) (rd2 X.K pyNe) := by
  intro pins s σ H x y v u Qv I rx ry q
  obtain ⟨P, S, w, z, Q, W, r1, r2, g, nq⟩ := q
  unfold pyNe pyEq at g
  split at g
  · rename_i a b
    rw [rp_int] at r1 r2
    subst r1 r2
    refine op_ne pins s σ H _ _ v u Qv I rx ry ⟨rfl, ?_⟩
    rw [dec_int]
    rw [show (a == b) = decide (a = b) from by simp [BEq.beq]]
    exact nq.now W rpBl g
  · rename_i a b
    rw [rp_bl] at r1 r2
    subst r1 r2
    refine op_ne pins s σ H _ _ v u Qv I rx ry ⟨rfl, ?_⟩
    rw [vbl]
    exact nq.now W rpBl g
  · rename_i a b
    rw [rp_str] at r1 r2
    subst r1 r2
    refine op_ne pins s σ H _ _ v u Qv I rx ry ⟨rfl, ?_⟩
    rw [show decide (V.str a = V.str b) = decide (a = b) from by by_cases e : a = b <;> simp [e]]
    exact nq.now W rpBl g
  · obtain ⟨d, ed, sd⟩ := fl_shaped g.1
    obtain ⟨e, ee, se⟩ := fl_shaped g.2.1
    exact op_neD hu pins s σ H x y v u Qv I rx ry ⟨d, e, toP_of _ _ _ r1 ed, toP_of _ _ _ r2 ee, sd, se, by rw [eqv_eqD _ _ _ d e (Nat.lt_succ_self _) ed ee]; exact nq.now W rpBl g.2.2⟩
end
end Dn

namespace Dn
open PySem PySem.Spec PyProof.Rows L2
theorem RpL.mapBl {K : Frg} {P : Hid} {S : Store} {H : Hp} : ∀ {bs : List Bool} {xs : List V}, RpL K P S H (bs.map Dt.bl) xs → xs = bs.map V.bl
  | [], xs, h => h.nilE
  | b :: bs, xs, h => by
    obtain ⟨v, r, rfl, h1, h2⟩ := RpL.consE (w := .bl b) (ws := bs.map Dt.bl) h
    rw [rp_bl] at h1
    subst h1
    rw [RpL.mapBl h2]
    rfl
theorem RpL.mapInt {K : Frg} {P : Hid} {S : Store} {H : Hp} : ∀ {bs : List Int} {xs : List V}, RpL K P S H (bs.map Dt.int) xs → xs = bs.map V.int
  | [], xs, h => h.nilE
  | b :: bs, xs, h => by
    obtain ⟨v, r, rfl, h1, h2⟩ := RpL.consE (w := .int b) (ws := bs.map Dt.int) h
    rw [rp_int] at h1
    subst h1
    rw [RpL.mapInt h2]
    rfl
theorem RpL.ofInt {K : Frg} {P : Hid} {S : Store} {H : Hp} : ∀ {bs : List Int}, RpL K P S H (bs.map Dt.int) (bs.map V.int)
  | [] => RpL.nil
  | b :: bs => RpL.cons (w := .int b) (v := .int b) rpInt RpL.ofInt
/-! ### built-in functions -/
def pyLen : OpN
  | [.str z], S, Q => z.length ≤ sizeLine ∧ Q (.int (z.length : Nat)) S
  | [.tup ws], S, Q => Q (.int (ws.length : Nat)) S
  | [.kt ws], S, Q => Q (.int (ws.length : Nat)) S
  | [x], S, Q => match lsv S x with
    | some ws => Q (.int (ws.length : Nat)) S
    | none => False
  | _, _, _ => False
def pyInt : OpN
  | [.int i], S, Q => Q (.int i) S
  | [.bl b], S, Q => Q (.int (if b then 1 else 0)) S
  | _, _, _ => False
def pyTuple : OpN
  | [.tup ws], S, Q => Q (.tup ws) S
  | [x], S, Q => match lsv S x with
    | some ws => Q (.tup ws) S
    | none => False
  | _, _, _ => False
def pyAll : OpN
  | [x], S, Q => match lsv S x with
    | some ws => ∃ bs : List Bool, ws = bs.map Dt.bl ∧ Q (.bl (bs.all id)) S
    | none => False
  | _, _, _ => False
def pyAny : OpN
  | [x], S, Q => match lsv S x with
    | some ws => ∃ bs : List Bool, ws = bs.map Dt.bl ∧ Q (.bl (bs.any id)) S
    | none => False
  | _, _, _ => False
def pySum : OpN
  | [x], S, Q => match lsv S x with
    | some ws => ∃ ns : List Int, ws = ns.map Dt.int ∧ Q (.int ns.sum) S
    | none => False
  | _, _, _ => False
def pyMin : OpN
  | [.int i, .int j], S, Q => Q (.int (if j < i then j else i)) S
  | [x], S, Q => match lsv S x with
    | some ws => ∃ ns : List Int, ws = ns.map Dt.int ∧ 0 < ns.length ∧ ∀ m, m ∈ ns → (∀ y, y ∈ ns → m ≤ y) → Q (.int m) S
    | none => False
  | _, _, _ => False
def pyMax : OpN
  | [.int i, .int j], S, Q => Q (.int (if j > i then j else i)) S
  | [x], S, Q => match lsv S x with
    | some ws => ∃ ns : List Int, ws = ns.map Dt.int ∧ 0 < ns.length ∧ ∀ m, m ∈ ns → (∀ y, y ∈ ns → y ≤ m) → Q (.int m) S
    | none => False
  | _, _, _ => False
def pyAbs : OpN
  | [.int i], S, Q => Q (.int (if i < 0 then -i else i)) S
  | _, _, _ => False
/-- what isinstance asks of built-in classes -/
def tyN (S : Store) : Dt → Option String
  | .non => some "NoneType"
  | .bl _ => some "bool"
  | .int _ => some "int"
  | .str _ => some "str"
  | .tup _ => some "tuple"
  | .kt _ => some "tuple"
  | .lst _ => some "list"
  | .kl _ => some "list"
  | .dK _ _ => some "dict"
  | .dT _ _ => some "dict"
  | .ref a => match S a with
    | some (.lst _) => some "list"
    | some (.dK _ _) => some "dict"
    | some (.dT _ _) => some "dict"
    | _ => none
  | _ => none
def pyIsi : OpN
  | [x, .ty n], S, Q => match tyN S x with
    | some t => match kitB t n with
      | some b => Q (.bl b) S
      | none => False
    | none => False
  | [x, .tup cs], S, Q => match tyN S x with
    | some t => ∃ (ns : List String) (bs : List Bool), cs = ns.map Dt.ty ∧ ns.map (kitB t) = bs.map some ∧ Q (.bl (bs.any id)) S
    | none => False
  | _, _, _ => False
section
variable {K : Frg} {P : Hid} {S : Store} {H : Hp}
theorem tyN_of (W : Wd K P S H) {w : Dt} {v : V} {t : String} (r : Rp K P S H w v) (h : tyN S w = some t) : TyX K H v (.type t) := by
  cases w with
  | non => rw [rp_non] at r; subst r; cases h; exact .base .non
  | bl b => rw [rp_bl] at r; subst r; cases h; exact .base (.bl b)
  | int b => rw [rp_int] at r; subst r; cases h; exact .base (.int b)
  | str b => rw [rp_str] at r; subst r; cases h; exact .base (.str b)
  | tup ws =>
    unfold Rp at r
    obtain ⟨a, xs, rfl, f, _⟩ := r
    cases h
    exact .base (.tup f.1)
  | kt ws =>
    unfold Rp at r
    obtain ⟨a, xs, rfl, f, _⟩ := r
    cases h
    rcases f with (f | ⟨o, f⟩) | ⟨o, its, n, k, c, _⟩
    · cases f
    · cases f
    · exact .kTuple k c
  | lst ws =>
    unfold Rp at r
    obtain ⟨a, xs, rfl, f, _⟩ := r
    cases h
    exact .base (.lst f.1)
  | kl ws =>
    unfold Rp at r
    obtain ⟨a, xs, rfl, f, _⟩ := r
    cases h
    rcases f with ⟨o, f⟩ | f
    · exact .base (.frz f.1)
    · rcases f with (f | ⟨o, f⟩) | ⟨o, its, n, k, c, _⟩
      · cases f
      · cases f
      · exact .kList k c
  | dK ks ws =>
    unfold Rp at r
    obtain ⟨a, xs, rfl, f, _⟩ := r
    cases h
    exact .base (.dK f.1)
  | dT ks ws =>
    unfold Rp at r
    obtain ⟨a, xs, rfl, f, _⟩ := r
    cases h
    exact .base (.dT f.1)
  | ref a =>
    rw [rp_ref] at r
    subst r
    unfold tyN at h
    dsimp only at h
    cases e : S a with
    | none => rw [e] at h; cases h
    | some o =>
      rw [e] at h
      have q := W.sim a _ e
      cases o with
      | lst us => cases h; obtain ⟨xs, e2, _⟩ := q; exact .base (.lst e2)
      | dK _ _ => cases h; obtain ⟨xs, e2, _⟩ := q; exact .base (.dK e2)
      | dT _ _ => cases h; obtain ⟨xs, e2, _⟩ := q; exact .base (.dT e2)
      | ins _ _ _ => cases h
  | ty n => cases h
  | ins _ _ _ => cases h
  | exn _ _ _ _ => cases h
end
theorem kitAny_of {K : Frg} {t : String} : ∀ {ns : List String} {bs : List Bool}, ns.map (kitB t) = bs.map some → PySem.W.kitAny K (.type t) (ns.map Value.type) = some (bs.any id) := by
  intro ns
  induction ns with
  | nil => intro bs h; cases bs with | nil => rfl | cons b bs => cases h
  | cons n ns ih =>
    intro bs h
    cases bs with
    | nil => cases h
    | cons b bs =>
      rw [List.map_cons, List.map_cons] at h
      injection h with h1 h2
      have q := ih h2
      have k : PySem.W.kitOne K (.type t) (.type n) = some b := kit_ty h1
      rw [List.map_cons]
      unfold PySem.W.kitAny
      rw [k]
      cases b with
      | true => rfl
      | false =>
        rw [List.any_cons]
        simp only [id, Bool.false_or]
        exact q
section
variable {X : Cx} {E : WX}
theorem c_len : CallR X (.builtin "len") (rdN X.K pyLen) := by
  intro pins s σ H vs us Qv I rv h
  obtain ⟨P, S, ws, Q, W, r, g, nq⟩ := h
  unfold pyLen at g
  split at g
  · obtain ⟨v, rfl, r1⟩ := r.one
    rw [rp_str] at r1
    subst r1
    exact call_len pins s σ H _ us Qv I rv ⟨_, _, rfl, ⟨g.1, rfl⟩, nq.now W rpInt g.2⟩
  · obtain ⟨v, rfl, r1⟩ := r.one
    obtain ⟨a, xs, rfl, h1, rl⟩ := rp_tup r1
    exact call_len pins s σ H _ us Qv I rv ⟨_, _, rfl, .inr ⟨xs, h1, rfl⟩, by rw [← rl.length]; exact nq.now W rpInt g⟩
  · obtain ⟨v, rfl, r1⟩ := r.one
    obtain ⟨a, xs, rfl, h1, rl⟩ := rp_kt r1
    exact call_len pins s σ H _ us Qv I rv ⟨_, _, rfl, .inr ⟨xs, h1.sq, rfl⟩, by rw [← rl.length]; exact nq.now W rpInt g⟩
  · split at g
    · rename_i ws e
      obtain ⟨v, rfl, r1⟩ := r.one
      obtain ⟨a, xs, rfl, h1, rl⟩ := lsv_of W r1 e
      exact call_len pins s σ H _ us Qv I rv ⟨_, _, rfl, .inl ⟨xs, h1, rfl⟩, by rw [← rl.length]; exact nq.now W rpInt g⟩
    · exact g.elim
  · exact g.elim
theorem c_int : CallR X (.type "int") (rdN X.K pyInt) := by
  intro pins s σ H vs us Qv I rv h
  obtain ⟨P, S, ws, Q, W, r, g, nq⟩ := h
  unfold pyInt at g
  split at g
  · obtain ⟨v, rfl, r1⟩ := r.one
    rw [rp_int] at r1
    subst r1
    exact call_int1 pins s σ H _ us Qv I rv (.inl ⟨_, rfl, nq.now W rpInt g⟩)
  · obtain ⟨v, rfl, r1⟩ := r.one
    rw [rp_bl] at r1
    subst r1
    exact call_int1 pins s σ H _ us Qv I rv (.inr ⟨_, rfl, nq.now W rpInt g⟩)
  · exact g.elim
theorem c_tuple : CallR X (.type "tuple") (rdN X.K pyTuple) := by
  intro pins s σ H vs us Qv I rv h
  obtain ⟨P, S, ws, Q, W, r, g, nq⟩ := h
  unfold pyTuple at g
  split at g
  · obtain ⟨v, rfl, r1⟩ := r.one
    obtain ⟨a, xs, rfl, h1, rl⟩ := rp_tup r1
    exact call_tuple_of pins s σ H _ us Qv I rv ⟨_, _, rfl, .inr ⟨h1, nq.now W r1 g⟩⟩
  · split at g
    · rename_i ws e
      obtain ⟨v, rfl, r1⟩ := r.one
      obtain ⟨a, xs, rfl, h1, rl⟩ := lsv_of W r1 e
      exact call_tuple_of pins s σ H _ us Qv I rv ⟨_, _, rfl, .inl ⟨h1, fun l hl => nq.tup W rl g hl⟩⟩
    · exact g.elim
  · exact g.elim
theorem c_all (hc : X.calm = true) : CallR X (.builtin "all") (rdN X.K pyAll) := by
  intro pins s σ H vs us Qv I rv h
  obtain ⟨P, S, ws, Q, W, r, g, nq⟩ := h
  unfold pyAll at g
  split at g
  · split at g
    · rename_i ws e
      obtain ⟨bs, rfl, g⟩ := g
      obtain ⟨v, rfl, r1⟩ := r.one
      obtain ⟨a, xs, rfl, h1, rl⟩ := lsv_of W r1 e
      rw [rl.mapBl] at h1
      exact cr_all hc pins s σ H _ us Qv I rv ⟨a, bs, rfl, h1, nq.now W rpBl g⟩
    · exact g.elim
  · exact g.elim
theorem c_any (hc : X.calm = true) : CallR X (.builtin "any") (rdN X.K pyAny) := by
  intro pins s σ H vs us Qv I rv h
  obtain ⟨P, S, ws, Q, W, r, g, nq⟩ := h
  unfold pyAny at g
  split at g
  · split at g
    · rename_i ws e
      obtain ⟨bs, rfl, g⟩ := g
      obtain ⟨v, rfl, r1⟩ := r.one
      obtain ⟨a, xs, rfl, h1, rl⟩ := lsv_of W r1 e
      rw [rl.mapBl] at h1
      exact cr_any hc pins s σ H _ us Qv I rv ⟨a, bs, rfl, h1, nq.now W rpBl g⟩
    · exact g.elim
  · exact g.elim
theorem c_sum (hc : X.calm = true) : CallR X (.builtin "sum") (rdN X.K pySum) := by
  intro pins s σ H vs us Qv I rv h
  obtain ⟨P, S, ws, Q, W, r, g, nq⟩ := h
  unfold pySum at g
  split at g
  · split at g
    · rename_i ws e
      obtain ⟨bs, rfl, g⟩ := g
      obtain ⟨v, rfl, r1⟩ := r.one
      obtain ⟨a, xs, rfl, h1, rl⟩ := lsv_of W r1 e
      rw [rl.mapInt] at h1
      exact cr_sum hc pins s σ H _ us Qv I rv ⟨a, bs, rfl, h1, nq.now W rpInt g⟩
    · exact g.elim
  · exact g.elim
theorem c_min (hc : X.calm = true) : CallR X (.builtin "min") (rdN X.K pyMin) := by
  intro pins s σ H vs us Qv I rv h
  obtain ⟨P, S, ws, Q, W, r, g, nq⟩ := h
  unfold pyMin at g
  split at g
  · obtain ⟨v, u, rfl, r1, r2⟩ := r.two
    rw [rp_int] at r1 r2
    subst r1 r2
    exact call_min2 hc pins s σ H _ us Qv I rv ⟨_, _, rfl, nq.now W rpInt g⟩
  · split at g
    · rename_i ws e
      obtain ⟨bs, rfl, g0, g⟩ := g
      obtain ⟨v, rfl, r1⟩ := r.one
      obtain ⟨a, xs, rfl, h1, rl⟩ := lsv_of W r1 e
      rw [rl.mapInt] at h1
      exact cr_min hc pins s σ H _ us Qv I rv ⟨a, bs, rfl, h1, g0, fun m h1 h2 => nq.now W rpInt (g m h1 h2)⟩
    · exact g.elim
  · exact g.elim
theorem c_max (hc : X.calm = true) : CallR X (.builtin "max") (rdN X.K pyMax) := by
  intro pins s σ H vs us Qv I rv h
  obtain ⟨P, S, ws, Q, W, r, g, nq⟩ := h
  unfold pyMax at g
  split at g
  · obtain ⟨v, u, rfl, r1, r2⟩ := r.two
    rw [rp_int] at r1 r2
    subst r1 r2
    exact call_max2 hc pins s σ H _ us Qv I rv ⟨_, _, rfl, nq.now W rpInt g⟩
  · split at g
    · rename_i ws e
      obtain ⟨bs, rfl, g0, g⟩ := g
      obtain ⟨v, rfl, r1⟩ := r.one
      obtain ⟨a, xs, rfl, h1, rl⟩ := lsv_of W r1 e
      rw [rl.mapInt] at h1
      exact cr_max hc pins s σ H _ us Qv I rv ⟨a, bs, rfl, h1, g0, fun m h1 h2 => nq.now W rpInt (g m h1 h2)⟩
    · exact g.elim
  · exact g.elim
theorem c_abs : CallR X (.builtin "abs") (rdN X.K pyAbs) := by
  intro pins s σ H vs us Qv I rv h
  obtain ⟨P, S, ws, Q, W, r, g, nq⟩ := h
  unfold pyAbs at g
  split at g
  · obtain ⟨v, rfl, r1⟩ := r.one
    rw [rp_int] at r1
    subst r1
    exact call_abs pins s σ H _ us Qv I rv ⟨_, rfl, nq.now W rpInt g⟩
  · exact g.elim
theorem RpL.tys {K : Frg} {P : Hid} {S : Store} {H : Hp} : ∀ {ns : List String} {xs : List V}, RpL K P S H (ns.map Dt.ty) xs → Paired ClsV xs (ns.map Value.type)
  | [], xs, h => by rw [h.nilE]; exact .nil
  | n :: ns, xs, h => by
    obtain ⟨v, r, rfl, h1, h2⟩ := RpL.consE (w := .ty n) (ws := ns.map Dt.ty) h
    rw [rp_ty] at h1
    subst h1
    exact .cons (.ty n) (RpL.tys h2)
theorem c_isi : CallR X (.builtin "isinstance") (rdN X.K pyIsi) := by
  intro pins s σ H vs us Qv I rv h
  obtain ⟨P, S, ws, Q, W, r, g, nq⟩ := h
  unfold pyIsi at g
  split at g
  · obtain ⟨v, u, rfl, r1, r2⟩ := r.two
    rw [rp_ty] at r2
    subst r2
    split at g
    · rename_i t et
      split at g
      · rename_i b eb
        exact call_isi pins s σ H _ us Qv I rv ⟨v, _, _, _, b, rfl, .ty _, tyN_of W r1 et, kit_ty eb, nq.now W rpBl g⟩
      · exact g.elim
    · exact g.elim
  · obtain ⟨v, u, rfl, r1, r2⟩ := r.two
    split at g
    · rename_i t et
      obtain ⟨ns, bs, rfl, e, g⟩ := g
      unfold Rp at r2
      obtain ⟨a, xs, rfl, f, rl⟩ := r2
      exact call_isiT pins s σ H _ us Qv I rv ⟨v, a, xs, _, _, _, rfl, f.1, rl.tys, tyN_of W r1 et, kitAny_of e, nq.now W rpBl g⟩
    · exact g.elim
  · exact g.elim
/-! ### subscripts, slices -/
def pyIx : Op2
  | .str z, .int i, S, Q => z.length ≤ sizeLine ∧ match atI z.cps.toList i with
    | some c => Q (.str ⟨#[c]⟩) S
    | none => False
  | .tup ws, .int i, S, Q => match atI ws i with
    | some w => Q w S
    | none => False
  | .kt ws, .int i, S, Q => match atI ws i with
    | some w => Q w S
    | none => False
  | x, .int i, S, Q => match lsv S x with
    | some ws => match atI ws i with
      | some w => Q w S
      | none => False
    | none => False
  | _, _, _, _ => False
theorem atI_rp {K : Frg} {P : Hid} {S : Store} {H : Hp} {ws : List Dt} {xs : List V} {i : Int} {w : Dt} (rl : RpL K P S H ws xs) (h : atI ws i = some w) : ∃ v, atI xs i = some v ∧ Rp K P S H w v := by
  unfold atI at h ⊢
  rw [← rl.length]
  cases e : ixN ws.length i with
  | none => rw [e] at h; cases h
  | some j =>
    rw [e] at h
    exact rl.get (i := j) h
theorem o_ix : IxR X (rd2 X.K pyIx) := by
  intro value slice pins s σ H x y v u Qv I rx ry h hs
  obtain ⟨P, S, w, z, Q, W, r1, r2, g, nq⟩ := h
  unfold pyIx at g
  split at g
  · rw [rp_str] at r1
    rw [rp_int] at r2
    obtain ⟨g1, g2⟩ := g
    split at g2
    · rename_i c ec
      exact ix_str value slice pins s σ H x y v u Qv I rx ry ⟨_, _, c, r1, r2, g1, ec, nq.now W rpStr g2⟩ hs
    · exact g2.elim
  · obtain ⟨a, xs, rfl, h1, rl⟩ := rp_tup r1
    rw [rp_int] at r2
    split at g
    · rename_i w ew
      obtain ⟨y2, e2, r3⟩ := atI_rp rl ew
      exact ix_tup value slice pins s σ H _ y v u Qv I rx ry ⟨a, xs, _, y2, rfl, r2, h1, e2, nq.now W r3 g⟩ hs
    · exact g.elim
  · obtain ⟨a, xs, rfl, h1, rl⟩ := rp_kt r1
    rw [rp_int] at r2
    split at g
    · rename_i w ew
      obtain ⟨y2, e2, r3⟩ := atI_rp rl ew
      exact ix_tup value slice pins s σ H _ y v u Qv I rx ry ⟨a, xs, _, y2, rfl, r2, h1.sq, e2, nq.now W r3 g⟩ hs
    · exact g.elim
  · split at g
    · rename_i ws e
      obtain ⟨a, xs, rfl, h1, rl⟩ := lsv_of W r1 e
      rw [rp_int] at r2
      split at g
      · rename_i w ew
        obtain ⟨y2, e2, r3⟩ := atI_rp rl ew
        exact ix_list value slice pins s σ H _ y v u Qv I rx ry ⟨a, xs, _, y2, rfl, r2, h1, e2, nq.now W r3 g⟩ hs
      · exact g.elim
    · exact g.elim
  · exact g.elim
/-- a part of a slice -/
abbrev MO := Env → Store → (Option Int → Store → Prop) → (Exn → Store → Prop) → Prop
def NO (K : Frg) (P : Hid) (S : Store) (H : Hp) (Q : Option Int → Store → Prop) (Qv : Option Int → Hp → Prop) : Prop := ∀ b H' S', Wd K P S' H' → Evo S H S' H' → Q b S' → Qv b H'
def rdO (K : Frg) (E : WX) (m : MO) : TO := fun σv H Qv => ∃ P S σ Q Ex, Wd K P S H ∧ RpS K P S H σ σv ∧ m σ S Q Ex ∧ NO K P S H Q Qv ∧ NX K P S H Ex (fun c d H' => E c d σv H')
def JO (X : Cx) (E : WX) (e : Option Expr) (m : MO) : Prop := PO X e (rdO X.K E m)
def mNoPart : MO := fun _ S Q _ => Q none S
def mPart (m : ME) : MO := fun σ S Q Ex => m σ S (fun w S1 => match w with | .int i => Q (some i) S1 | _ => False) Ex
theorem PO.weak {X : Cx} {e : Option Expr} {t t' : TO} (h : PO X e t) (i : ∀ σ H Q, t' σ H Q → t σ H Q) : PO X e t' := ⟨fun pins s σ H Q I q => h.run pins s σ H Q I (i σ H Q q)⟩
theorem jo_none : JO X E none mNoPart := PO.weak po_none fun σv H Qv q => by
  obtain ⟨P, S, σ, Q, Ex, W, r, m, nq, nx⟩ := q
  exact nq none H S W Evo.refl m
theorem jo_some {e : Expr} {m : ME} (h : JE X E e m) : JO X E (some e) (mPart m) := PO.weak (po_some h) fun σv H Qv q => by
  obtain ⟨P, S, σ, Q, Ex, W, r, m, nq, nx⟩ := q
  refine ⟨P, S, σ, _, Ex, W, r, m, fun v H1 w S1 W1 r1 e1 m1 => ?_, nx⟩
  dsimp only at m1
  split at m1
  · rename_i i
    rw [rp_int] at r1
    exact ⟨i, r1, nq (some i) H1 S1 W1 e1 m1⟩
  · exact m1.elim
def cutW {α : Type} (xs : List α) (lo hi : Option Int) : List α := (xs.drop (HT.sIx xs.length 0 lo)).take (HT.sIx xs.length xs.length hi - HT.sIx xs.length 0 lo)
abbrev OpS := Dt → Option Int → Option Int → Store → (Dt → Store → Prop) → Prop
def pySlice : OpS
  | .str z, lo, hi, S, Q => z.length ≤ sizeLine ∧ Q (.str (cutS z lo hi)) S
  | .tup ws, lo, hi, S, Q => Q (.tup (cutW ws lo hi)) S
  | x, lo, hi, S, Q => match lsv S x with
    | some ws => Q (.lst (cutW ws lo hi)) S
    | none => False
def rdSl (K : Frg) (g : OpS) : V → Option Int → Option Int → Hp → VK → Prop := fun x lo hi H Qv => ∃ P S w Q, Wd K P S H ∧ Rp K P S H w x ∧ g w lo hi S Q ∧ NQ K P S H Q Qv
theorem cut_rp {K : Frg} {P : Hid} {S : Store} {H : Hp} {ws : List Dt} {xs : List V} {lo hi : Option Int} (rl : RpL K P S H ws xs) : RpL K P S H (cutW ws lo hi) (cutV xs lo hi) := by
  unfold cutW cutV
  rw [← rl.length]
  exact (rl.drop _).take _
theorem o_slice : SlR X (rdSl X.K pySlice) := by
  intro pins s σ H x v vl vu lo hi sl Qv I rx hs pl pu h
  obtain ⟨P, S, w, Q, W, r1, g, nq⟩ := h
  unfold pySlice at g
  split at g
  · rw [rp_str] at r1
    exact sl_str pins s σ H x v vl vu _ _ sl Qv I rx hs pl pu ⟨_, r1, g.1, nq.now W rpStr g.2⟩
  · rename_i ws
    obtain ⟨a, xs, rfl, h1, rl⟩ := rp_tup r1
    refine sl_tupA pins s σ H _ v vl vu _ _ sl Qv I rx hs pl pu ⟨a, xs, rfl, h1, fun e => ?_, fun _ p hp => nq.tup W (cut_rp rl) g hp⟩
    have e2 : cutW ws lo hi = ws := by
      unfold cutW
      rw [rl.length, e.1, e.2, Nat.sub_zero, List.drop_zero, ← rl.length, List.take_length]
    rw [e2] at g
    exact nq.now W r1 g
  · split at g
    · rename_i ws e
      obtain ⟨a, xs, rfl, h1, rl⟩ := lsv_of W r1 e
      exact sl_list pins s σ H _ v vl vu _ _ sl Qv I rx hs pl pu ⟨a, xs, rfl, h1, fun p hp => nq.lst W (cut_rp rl) g hp⟩
    · exact g.elim
def mSl (g : OpS) (ma : ME) (ml mh : MO) : ME := fun σ S Q Ex => ma σ S (fun x S1 => ml σ S1 (fun lo S2 => mh σ S2 (fun hi S3 => g x lo hi S3 Q) Ex) Ex) Ex
theorem je_slice {a : Expr} {lo hi : Option Expr} {ma : ME} {ml mh : MO} {g : OpS} {pos p2 : Pos} (hr : SlR X (rdSl X.K g)) (ha : JE X E a ma) (hl : JO X E lo ml) (hh : JO X E hi mh) : JE X E (.Subscript a (.Slice lo hi none p2) pos) (mSl g ma ml mh) := PE.weak (pe_slice hr ha hl hh) fun σv H Qv q => by
  obtain ⟨P, S, σ, Q, Ex, W, r, m, nq, nx⟩ := q
  refine ⟨P, S, σ, _, Ex, W, r, m, fun v H1 w S1 W1 r1 e1 m1 => ?_, nx⟩
  refine ⟨P, S1, σ, _, Ex, W1, r.mono e1, m1, fun o H2 S2 W2 e2 m2 => ?_, nx.after e1⟩
  refine ⟨P, S2, σ, _, Ex, W2, r.mono (e1.trans e2), m2, fun o2 H3 S3 W3 e3 m3 => ?_, nx.after (e1.trans e2)⟩
  exact ⟨P, S3, w, Q, W3, r1.mono (e2.trans e3), m3, nq.after ((e1.trans e2).trans e3)⟩
/-! ### methods of built-in types -/
def tyW (T : String) (S : Store) (w : Dt) : Bool := match T with
  | "list" => (lsv S w).isSome
  | "str" => match w with | .str _ => true | _ => false
  | "tuple" => match w with | .kt _ => true | _ => false
  | _ => false
theorem tyW_of {K : Frg} {P : Hid} {S : Store} {H : Hp} {T : String} (W : Wd K P S H) {w : Dt} {v : V} (r : Rp K P S H w v) (h : tyW T S w = true) : tyV K T v H := by
  unfold tyW at h
  split at h
  · cases e : lsv S w with
    | none => rw [e] at h; cases h
    | some ws =>
      obtain ⟨a, xs, rfl, h1, _⟩ := lsv_of W r e
      exact .inl ⟨rfl, xs, h1⟩
  · split at h
    · rw [rp_str] at r; subst r; rfl
    · cases h
  · split at h
    · obtain ⟨a, xs, rfl, h1, _⟩ := rp_kt r
      exact .inr (.inl ⟨rfl, h1.2⟩)
    · cases h
  · cases h
def mMeth (T : String) (g : Dt → OpN) (mo : ME) (ma : MA) : ME := fun σ S Q Ex => mo σ S (fun x S1 => tyW T S1 x = true ∧ ma σ S1 (fun xs S2 => g x xs S2 Q) Ex) Ex
theorem meth_weak {T : String} {g : Dt → OpN} {K : Frg} {mo : ME} {ma : MA} {σv : L2.St} {H : Hp} {Qv : VK} (h : rdE K E (mMeth T g mo ma) σv H Qv) : tBM K T (rdM K g) (rdE K E mo) (rdA K E ma) σv H Qv := by
  obtain ⟨P, S, σ, Q, Ex, W, r, m, nq, nx⟩ := h
  refine ⟨P, S, σ, _, Ex, W, r, m, fun v H1 w S1 W1 r1 e1 m1 => ?_, nx⟩
  refine ⟨tyW_of W1 r1 m1.1, P, S1, σ, _, Ex, W1, r.mono e1, m1.2, fun vs H2 ws S2 W2 r2 e2 m2 => ?_, nx.after e1⟩
  exact ⟨P, S2, w, ws, Q, W2, r1.mono e2, r2, m2, nq.after (e1.trans e2)⟩
theorem je_meth {o e : Expr} {es : List Expr} {name : Str} {T id : String} {g : Dt → OpN} {mo : ME} {ma : MA} {apos cpos : Pos} (pa : PlainAttrs T) (slot : Slot T name id) (hty : typeOf (.builtin id) = pure (.type "method_descriptor")) (hm : MtR X id (rdM X.K g)) (ho : JE X E o mo) (ha : JA X E (e :: es) ma)
    (hbase : attributeBase o name X.env (eval o X.env) = eval o X.env := by rfl)
    (hfew : ((backTo cpos (starEach (e :: es) X.env)).all (fun x => !x.1) && (backToKw cpos (keywordEach [] X.env)).all (fun x => x.1.isSome) && decide ((e :: es).length + ([] : List Keyword).length + (if ([] : List Keyword).isEmpty then 0 else 1) < 30)) = true := by rfl)
    (hline : (apos.endLine == cpos.line) = true := by rfl) (hs : starEach (e :: es) X.env = (false, eval e X.env) :: starEach es X.env := by rfl)
    (hplain : (backTo cpos (starEach es X.env)).any (·.1) = false := by rfl) : JE X E (.Call (.Attribute o name apos) (e :: es) [] cpos) (mMeth T g mo ma) :=
  PE.weak (pe_bm pa slot hty hm ho ha hbase hfew hline hs hplain) fun _ _ _ => meth_weak
def pyAppend : Dt → OpN
  | .ref a, [w], S, Q => match S a with
    | some (.lst ws) => ws.length < sizeLine ∧ Q .non (sup S a (.lst (ws ++ [w])))
    | _ => False
  | _, _, _, _ => False
theorem m_append : MtR X "list.append" (rdM X.K pyAppend) := by
  intro pins s σ H x vs v us Qv I rx rv h
  obtain ⟨P, S, w, ws, Q, W, r1, r2, g, nq⟩ := h
  unfold pyAppend at g
  split at g
  · rename_i a z
    rw [rp_ref] at r1
    subst r1
    obtain ⟨y, rfl, r3⟩ := r2.one
    split at g
    · rename_i us e
      obtain ⟨xs, e2, rl⟩ := W.sim a _ e
      refine mt_append pins s σ H _ _ v _ Qv I rx rv ⟨a, xs, y, rfl, rfl, e2, by rw [← rl.length]; exact g.1, ?_⟩
      have ev : Evo S H (sup S a (.lst (us ++ [z]))) (upd H a (.lst (xs ++ [y]))) := Evo.set e
      refine nq _ _ .non (sup S a (.lst (us ++ [z]))) (W.put (W.nohid e) (fun n => by rw [e] at n; cases n) ⟨xs ++ [y], upd_same, (rl.append (RpL.cons r3 RpL.nil)).mono ev⟩) rpNon ev g.2
    · exact g.elim
  · exact g.elim
def pyExtend : Dt → OpN
  | .ref a, [.tup zs], S, Q => match S a with
    | some (.lst ws) => ws.length + zs.length ≤ sizeLine ∧ Q .non (sup S a (.lst (ws ++ zs)))
    | _ => False
  | .ref a, [w], S, Q => match S a, plv S w with
    | some (.lst ws), some zs => ws.length + zs.length ≤ sizeLine ∧ Q .non (sup S a (.lst (ws ++ zs)))
    | _, _ => False
  | _, _, _, _ => False
theorem m_extend : MtR X "list.extend" (rdM X.K pyExtend) := by
  intro pins s σ H x vs v us Qv I rx rv h
  obtain ⟨P, S, w, ws, Q, W, r1, r2, g, nq⟩ := h
  unfold pyExtend at g
  split at g
  · rename_i a zs
    rw [rp_ref] at r1
    subst r1
    obtain ⟨y, rfl, r3⟩ := r2.one
    split at g
    · rename_i us e
      obtain ⟨xs, e2, rl⟩ := W.sim a _ e
      obtain ⟨b, ys, rfl, h1, rl3⟩ := rp_tup r3
      refine mt_extT pins s σ H _ _ v _ Qv I rx rv ⟨a, b, xs, ys, rfl, rfl, e2, h1, by rw [← rl.length, ← rl3.length]; exact g.1, ?_⟩
      have ev : Evo S H (sup S a (.lst (us ++ zs))) (upd H a (.lst (xs ++ ys))) := Evo.set e
      refine nq _ _ .non (sup S a (.lst (us ++ zs))) (W.put (W.nohid e) (fun n => by rw [e] at n; cases n) ⟨xs ++ ys, upd_same, (rl.append rl3).mono ev⟩) rpNon ev g.2
    · exact g.elim
  · rename_i a z hne
    rw [rp_ref] at r1
    subst r1
    obtain ⟨y, rfl, r3⟩ := r2.one
    split at g
    · rename_i us zs e ez
      obtain ⟨xs, e2, rl⟩ := W.sim a _ e
      obtain ⟨b, ys, rfl, e3, rl3⟩ := plv_of W r3 ez
      refine mt_extend pins s σ H _ _ v _ Qv I rx rv ⟨a, b, xs, ys, rfl, rfl, e2, e3, by rw [← rl.length, ← rl3.length]; exact g.1, ?_⟩
      have ev : Evo S H (sup S a (.lst (us ++ zs))) (upd H a (.lst (xs ++ ys))) := Evo.set e
      refine nq _ _ .non (sup S a (.lst (us ++ zs))) (W.put (W.nohid e) (fun n => by rw [e] at n; cases n) ⟨xs ++ ys, upd_same, (rl.append rl3).mono ev⟩) rpNon ev g.2
    · exact g.elim
  · exact g.elim
/-- a new list made by list(..) -/
def rdNL (K : Frg) (g : List Dt → Store → (List Dt → Store → Prop) → Prop) : List V → Hp → VK → Prop := fun xs H Qv => ∃ P S ws Q, Wd K P S H ∧ RpL K P S H ws xs ∧ g ws S Q ∧
  (∀ p H1 ys us, H p = none → H1 = upd H p (.lst ys) → RpL K P S H us ys → Q us S → Qv (.ref p) H1)
def mFnL (g : List Dt → Store → (List Dt → Store → Prop) → Prop) (ma : MA) : ML := fun σ S Q Ex => ma σ S (fun xs S1 => g xs S1 Q) Ex
def pyList : List Dt → Store → (List Dt → Store → Prop) → Prop
  | [.tup ws], S, Q => Q ws S
  | [x], S, Q => match lsv S x with
    | some ws => Q ws S
    | none => False
  | _, _, _ => False
theorem c_list : CallR X (.type "list") (rdNL X.K pyList) := by
  intro pins s σ H vs us Qv I rv h
  obtain ⟨P, S, ws, Q, W, r, g, nq⟩ := h
  unfold pyList at g
  split at g
  · obtain ⟨v, rfl, r1⟩ := r.one
    obtain ⟨a, xs, rfl, h1, rl⟩ := rp_tup r1
    exact call_list_of pins s σ H _ us Qv I rv ⟨a, xs, rfl, .inr h1, fun l hl => nq l _ xs _ hl rfl rl g⟩
  · split at g
    · rename_i ws e
      obtain ⟨v, rfl, r1⟩ := r.one
      obtain ⟨a, xs, rfl, h1, rl⟩ := lsv_of W r1 e
      exact call_list_of pins s σ H _ us Qv I rv ⟨a, xs, rfl, .inl h1, fun l hl => nq l _ xs _ hl rfl rl g⟩
    · exact g.elim
  · exact g.elim
theorem jl_callT {x : Str} {T : String} {e : Expr} {es : List Expr} {g : List Dt → Store → (List Dt → Store → Prop) → Prop} {ma : MA} {p pos : Pos} (hc : CallR X (.type T) (rdNL X.K g)) (hg : Gl X x) (hm : X.mg x = none) (hv : bootBuiltins x = some (.type T)) (ha : JA X E (e :: es) ma)
    (hn : x ≠ "__name__" := by decide) (hdb : (x == ("__debug__" : Str)) = false := by decide) (he : starEach (e :: es) X.env = (false, eval e X.env) :: starEach es X.env := by rfl)
    (hpl : (backTo pos (starEach es X.env)).any (·.1) = false := by rfl) :
    JL X E (.Call (.Name x p) (e :: es) [] pos) (mFnL g ma) := PE.weak (pe_callTy hc hg hm hv ha hn hdb he hpl) fun σv H Qv q => by
  obtain ⟨P, S, σ, Q, Ex, W, r, m, nq, nx⟩ := q
  exact ⟨P, S, σ, _, Ex, W, r, m, fun v H1 w S1 W1 r1 e1 m1 => ⟨P, S1, w, Q, W1, r1, m1, fun p H2 ys us hp e2 rl q2 => nq p H1 H2 ys us S1 W1 hp e2 rl e1 q2⟩, nx⟩
end
end Dn

namespace Dn
open PySem PySem.Spec PyProof.Rows L2
section
variable {X : Cx} {E : WX}
/-! ### statements -/
def mSeq (m1 m2 : MS) : MS := fun D σ S => m1 { D with nx := fun σ' S' => m2 D σ' S' } σ S
def mNext : MS := fun D σ S => D.nx σ S
def mRet (m : ME) : MS := fun D σ S => m σ S D.rt (fun x S' => D.ex x σ S')
def mRetN : MS := fun D σ S => D.rt .non S
def mIfS (mt : MT) (m1 m2 : MS) : MS := fun D σ S => mt σ S (fun b S1 => br b (m1 D σ S1) (m2 D σ S1)) (fun x S' => D.ex x σ S')
def mSet (i : Nat) (m : ME) : MS := fun D σ S => m σ S (fun w S1 => D.nx (σ.set i (some w)) S1) (fun x S' => D.ex x σ S')
def mDrop (m : ME) : MS := fun D σ S => m σ S (fun _ S1 => D.nx σ S1) (fun x S' => D.ex x σ S')
def mBrk : MS := fun D σ S => D.bk σ S
def mCnt : MS := fun D σ S => D.ct σ S
theorem NXS.at {K : Frg} {P : Hid} {S : Store} {H : Hp} {Q : Exn → Env → Store → Prop} {N : WX} (h : NXS K P S H Q N) {σ : Env} {σv : L2.St} (r : RpS K P S H σ σv) : NX K P S H (fun x S' => Q x σ S') (fun c d H' => N c d σv H') :=
  fun c d H2 x S2 W rx e q => h c d σv H2 x σ S2 W rx (r.mono e) e q
theorem jss_nil : JSs X E [] mNext := PSs.weak pss_nil fun σv H D q => by
  obtain ⟨P, S, σ, Dw, W, r, m, d⟩ := q
  exact d.nx σv H σ S W r Evo.refl m
theorem jss_cons {st : Stmt} {rest : List Stmt} {m1 m2 : MS} (h1 : JS X E st m1) (h2 : JSs X E rest m2) : JSs X E (st :: rest) (mSeq m1 m2) := PSs.weak (pss_cons h1 h2) fun σv H D q => by
  obtain ⟨P, S, σ, Dw, W, r, m, d⟩ := q
  exact ⟨P, S, σ, _, W, r, m, fun σv' H' σ' S' W' r' e' q' => ⟨P, S', σ', Dw, W', r', q', d.after e'⟩, d.rt, d.bk, d.ct, d.ex⟩
theorem jss_one {st : Stmt} {m : MS} (h1 : JS X E st m) : JSs X E [st] m := pss_one h1
theorem js_pass {pos} : JS X E (.Pass pos) mNext := PS.weak ps_pass fun σv H D q => by
  obtain ⟨P, S, σ, Dw, W, r, m, d⟩ := q
  exact d.nx σv H σ S W r Evo.refl m
theorem js_brk {pos} : JS X E (.Break pos) mBrk := PS.weak ps_break fun σv H D q => by
  obtain ⟨P, S, σ, Dw, W, r, m, d⟩ := q
  exact d.bk σv H σ S W r Evo.refl m
theorem js_cnt {pos} : JS X E (.Continue pos) mCnt := PS.weak ps_continue fun σv H D q => by
  obtain ⟨P, S, σ, Dw, W, r, m, d⟩ := q
  exact d.ct σv H σ S W r Evo.refl m
theorem js_ret {e : Expr} {m : ME} {pos} (h : JE X E e m) : JS X E (.Return (some e) pos) (mRet m) := PS.weak (ps_ret h) fun σv H D q => by
  obtain ⟨P, S, σ, Dw, W, r, m, d⟩ := q
  exact ⟨P, S, σ, _, _, W, r, m, d.rt, d.ex.at r⟩
theorem js_retN {pos} : JS X E (.Return none pos) mRetN := PS.weak ps_retN fun σv H D q => by
  obtain ⟨P, S, σ, Dw, W, r, m, d⟩ := q
  exact d.rt .non H .non S W rpNon Evo.refl m
theorem js_if {c : Expr} {a b : List Stmt} {mt : MT} {m1 m2 : MS} {pos} (hc : JT X E c mt) (h1 : JSs X E a m1) (h2 : JSs X E b m2) : JS X E (.If c a b pos) (mIfS mt m1 m2) := PS.weak (ps_if hc h1 h2) fun σv H D q => by
  obtain ⟨P, S, σ, Dw, W, r, m, d⟩ := q
  refine ⟨P, S, σ, _, _, W, r, m, fun b H1 S1 W1 e1 m1 => ?_, d.ex.at r⟩
  cases b with
  | true => exact ⟨P, S1, σ, Dw, W1, r.mono e1, m1, d.after e1⟩
  | false => exact ⟨P, S1, σ, Dw, W1, r.mono e1, m1, d.after e1⟩
theorem js_drop {e : Expr} {m : ME} {pos} (h : JE X E e m) (hs : swapsWith e none pos.line X.env = pure false := by rfl) : JS X E (.Expr e pos) (mDrop m) := PS.weak (ps_expr h hs) fun σv H D q => by
  obtain ⟨P, S, σ, Dw, W, r, m, d⟩ := q
  exact ⟨P, S, σ, _, _, W, r, m, fun v H1 w S1 W1 r1 e1 m1 => d.nx σv H1 σ S1 W1 (r.mono e1) e1 m1, d.ex.at r⟩
/-! ### targets -/
abbrev MG := Dt → Env → Store → (Env → Store → Prop) → (Exn → Env → Store → Prop) → Prop
def rdG (K : Frg) (E : WX) (mg : MG) : TG := fun v σv H R => ∃ P S σ w Q Ex, Wd K P S H ∧ RpS K P S H σ σv ∧ Rp K P S H w v ∧ mg w σ S Q Ex ∧ NN K P S H Q R ∧ NXS K P S H Ex E
abbrev MGs := List Dt → Env → Store → (Env → Store → Prop) → (Exn → Env → Store → Prop) → Prop
def rdGs (K : Frg) (E : WX) (mg : MGs) : TGs := fun vs σv H R => ∃ P S σ ws Q Ex, Wd K P S H ∧ RpS K P S H σ σv ∧ RpL K P S H ws vs ∧ mg ws σ S Q Ex ∧ NN K P S H Q R ∧ NXS K P S H Ex E
def JG (X : Cx) (E : WX) (e : Expr) (m : MG) : Prop := PG X e (rdG X.K E m)
def JGs (X : Cx) (E : WX) (es : List Expr) (m : MGs) : Prop := PGs X es (rdGs X.K E m)
theorem PG.weak {e : Expr} {t t' : TG} (h : PG X e t) (i : ∀ v σ H Q, t' v σ H Q → t v σ H Q) : PG X e t' := ⟨fun pins s σ H v u Q I r q => h.run pins s σ H v u Q I r (i v σ H Q q)⟩
theorem PGs.weak {e : List Expr} {t t' : TGs} (h : PGs X e t) (i : ∀ v σ H Q, t' v σ H Q → t v σ H Q) : PGs X e t' := ⟨fun pins s σ H v u Q I r q => h.run pins s σ H v u Q I r (i v σ H Q q)⟩
def mgName (i : Nat) : MG := fun w σ S Q _ => Q (σ.set i (some w)) S
def mgNil : MGs := fun ws σ S Q _ => match ws with
  | [] => Q σ S
  | _ :: _ => False
def mgCons (m : MG) (ms : MGs) : MGs := fun ws σ S Q Ex => match ws with
  | w :: r => m w σ S (fun σ1 S1 => ms r σ1 S1 Q Ex) Ex
  | [] => False
def mgTup (n : Nat) (ms : MGs) : MG := fun w σ S Q Ex => match w with
  | .tup ws => ws.length = n ∧ ms ws σ S Q Ex
  | _ => False
theorem jg_name {i : Nat} {x : Str} {pos : Pos} (h : PG X (.Name x pos) (gName i)) : JG X E (.Name x pos) (mgName i) := PG.weak h fun v σv H R q => by
  obtain ⟨P, S, σ, w, Q, Ex, W, r, rw', m, nn, nx⟩ := q
  exact nn _ H _ S W (r.set rw') Evo.refl m
theorem jgs_nil : JGs X E [] mgNil := PGs.weak pgs_nil fun v σv H R q => by
  obtain ⟨P, S, σ, w, Q, Ex, W, r, rw', m, nn, nx⟩ := q
  unfold mgNil at m
  split at m
  · exact ⟨rw'.nilE, nn _ H _ S W r Evo.refl m⟩
  · exact m.elim
theorem jgs_cons {e : Expr} {es : List Expr} {m : MG} {ms : MGs} (h1 : JG X E e m) (h2 : JGs X E es ms) (hs : (assignEach (e :: es) X.env).map (·.2) = assign e X.env :: (assignEach es X.env).map (·.2) := by rfl) : JGs X E (e :: es) (mgCons m ms) := PGs.weak (pgs_cons h1 h2 hs) fun v σv H R q => by
  obtain ⟨P, S, σ, w, Q, Ex, W, r, rw', m, nn, nx⟩ := q
  unfold mgCons at m
  split at m
  · obtain ⟨v1, vr, rfl, r1, r2⟩ := rw'.consE
    refine ⟨v1, vr, rfl, P, S, σ, _, _, Ex, W, r, r1, m, fun σv' H' σ' S' W' r' e' q' => ?_, nx⟩
    exact ⟨P, S', σ', _, Q, Ex, W', r', r2.mono e', q', nn.after e', nx.after e'⟩
  · exact m.elim
theorem jg_tup {es : List Expr} {k : Nat} {n : Nat} {ms : MGs} {pos : Pos} (hc : X.calm = true) (h : JGs X E es ms) (hn : (assignEach es X.env).length = n := by rfl) (hst : (assignEach es X.env).findIdx? (·.1) = none := by rfl) : JG X E (.Tuple es k pos) (mgTup n ms) :=
  PG.weak (pg_tup hc h hn hst) fun v σv H R q => by
    obtain ⟨P, S, σ, w, Q, Ex, W, r, rw', m, nn, nx⟩ := q
    unfold mgTup at m
    split at m
    · obtain ⟨a, xs, rfl, h1, rl⟩ := rp_tup rw'
      exact ⟨a, xs, rfl, h1, by rw [← rl.length]; exact m.1, P, S, σ, _, Q, Ex, W, r, rl, m.2, nn, nx⟩
    · exact m.elim
def mAsg (m : ME) (g : MG) : MS := fun D σ S => m σ S (fun w S1 => g w σ S1 D.nx D.ex) (fun x S' => D.ex x σ S')
theorem js_asg {tg e : Expr} {m : ME} {g : MG} {pos : Pos} (he : JE X E e m) (hg : JG X E tg g) (hs : swapsWithSole [tg] e pos.line X.env = pure false := by rfl) (hw : swappedStores [tg] e X.env = pure none := by rfl)
    (h1 : (assignEach [tg] X.env).map (·.2) = [assign tg X.env] := by rfl) : JS X E (.Assign [tg] e pos) (mAsg m g) :=
  PS.weak (ps_asg he hg hs hw h1) fun σv H D q => by
    obtain ⟨P, S, σ, Dw, W, r, m, d⟩ := q
    exact ⟨P, S, σ, _, _, W, r, m, fun v H1 w S1 W1 r1 e1 m1 => ⟨P, S1, σ, w, _, _, W1, r.mono e1, r1, m1, d.nx.after e1, d.ex.after e1⟩, d.ex.at r⟩
theorem js_set {i : Nat} {x : Str} {e : Expr} {m : ME} {pos pos' : Pos} (he : JE X E e m) (hg : PG X (.Name x pos') (gName i)) (hs : swapsWithSole [Expr.Name x pos'] e pos.line X.env = pure false := by rfl) (hw : swappedStores [Expr.Name x pos'] e X.env = pure none := by rfl)
    (h1 : (assignEach [Expr.Name x pos'] X.env).map (·.2) = [assign (.Name x pos') X.env] := by rfl) : JS X E (.Assign [.Name x pos'] e pos) (mSet i m) := js_asg he (jg_name hg) hs hw h1
/-- a, b = x, y -/
def mPar (i j : Nat) (ma : MA) : MS := fun D σ S => ma σ S (fun ws S1 => match ws with | [v, w] => D.nx ((σ.set i (some v)).set j (some w)) S1 | _ => False) (fun x S' => D.ex x σ S')
theorem js_par {i j : Nat} {x y : Str} {a b : Expr} {ma : MA} {px py pt pos : Pos} {kt k2 pt2} (hc : X.calm = true) (hN : X.N.Nodup) (hi : X.N[i]? = some x) (hj : X.N[j]? = some y) (hij : i ≠ j)
    (hx : X.env.scope.names.lookup x = some .local) (hy : X.env.scope.names.lookup y = some .local) (ha : JA X E [a, b] ma)
    (hw : swappedStores [.Tuple [.Name x px, .Name y py] kt pt] (.Tuple [a, b] k2 pt2) X.env = pure (some [x, y]) := by rfl)
    (hs : swapsWithSole [.Tuple [.Name x px, .Name y py] kt pt] (.Tuple [a, b] k2 pt2) pos.line X.env = pure false := by rfl) :
    JS X E (.Assign [.Tuple [.Name x px, .Name y py] kt pt] (.Tuple [a, b] k2 pt2) pos) (mPar i j ma) := PS.weak (ps_par hc hN hi hj hij hx hy ha hw hs) fun σv H D q => by
  obtain ⟨P, S, σ, Dw, W, r, m, d⟩ := q
  refine ⟨P, S, σ, _, _, W, r, m, fun vs H' ws S' W' rl e' q' => ?_, d.ex.at r⟩
  match ws, q' with
  | [v, w], q' =>
    unfold RpL at rl
    obtain ⟨v1, rr, rfl, r1, rl⟩ := rl
    unfold RpL at rl
    obtain ⟨v2, rr, rfl, r2, rl⟩ := rl
    unfold RpL at rl
    subst rl
    exact ⟨v1, v2, rfl, d.nx _ H' _ S' W' (((r.mono e').set r1).set r2) e' q'⟩
/-- o[i] = v -/
abbrev OpSet := Dt → Dt → Dt → Store → (Store → Prop) → Prop
def rdSet (K : Frg) (g : OpSet) : TSet := fun o i v H R => ∃ P S wo wi w Q, Wd K P S H ∧ Rp K P S H wo o ∧ Rp K P S H wi i ∧ Rp K P S H w v ∧ g wo wi w S Q ∧ (∀ H' S', Wd K P S' H' → Evo S H S' H' → Q S' → R H')
def mgSub (g : OpSet) (mo mi : ME) : MG := fun w σ S Q Ex => mo σ S (fun o S1 => mi σ S1 (fun i S2 => g o i w S2 (fun S3 => Q σ S3)) (fun x S' => Ex x σ S')) (fun x S' => Ex x σ S')
theorem jg_sub {o i : Expr} {mo mi : ME} {g : OpSet} {pos : Pos} (ho : JE X E o mo) (hi : JE X E i mi) (hs : PSet X (rdSet X.K g))
    (ha : ∀ v, assign (.Subscript o i pos) X.env v = (do
      let ov ← holding [v] (eval o X.env)
      let iv ← holding [v, ov] (eval i X.env)
      standAt pos
      holding [v, ov, iv] (setItem ov iv v)
      release [v, ov, iv] []) := by intro _; rfl) : JG X E (.Subscript o i pos) (mgSub g mo mi) := PG.weak (pg_sub ho hi hs ha) fun v σv H R q => by
  obtain ⟨P, S, σ, w, Q, Ex, W, r, rw', m, nn, nx⟩ := q
  refine ⟨P, S, σ, _, _, W, r, m, fun v1 H1 w1 S1 W1 r1 e1 m1 => ?_, nx.at r⟩
  refine ⟨P, S1, σ, _, _, W1, r.mono e1, m1, fun v2 H2 w2 S2 W2 r2 e2 m2 => ?_, (nx.at r).after e1⟩
  exact ⟨P, S2, w1, w2, w, _, W2, r1.mono e2, r2, rw'.mono (e1.trans e2), m2, fun H' S' W' e' q' => nn σv H' σ S' W' (r.mono ((e1.trans e2).trans e')) ((e1.trans e2).trans e') q'⟩
def pySetItem : OpSet
  | .ref a, .int k, w, S, Q => match S a with
    | some (.lst ws) => match ixN ws.length k with
      | some j => Q (sup S a (.lst (ws.set j w)))
      | none => False
    | _ => False
  | _, _, _, _, _ => False
theorem s_list : PSet X (rdSet X.K pySetItem) := by
  intro pins s σ H o i v ov iv u R I ro ri rv h
  obtain ⟨P, S, wo, wi, w, Q, W, r1, r2, r3, g, k⟩ := h
  unfold pySetItem at g
  split at g
  · rename_i a n
    rw [rp_ref] at r1
    rw [rp_int] at r2
    subst r1 r2
    split at g
    · rename_i ws e
      split at g
      · rename_i j ej
        obtain ⟨xs, e2, rl⟩ := W.sim a _ e
        refine set_list pins s σ H _ _ v ov iv u R I ro ri rv ⟨a, xs, n, j, rfl, rfl, e2, by rw [← rl.length]; exact ej, ?_⟩
        have ev : Evo S H (sup S a (.lst (ws.set j w))) (upd H a (.lst (xs.set j v))) := Evo.set e
        exact k _ (sup S a (.lst (ws.set j w))) (W.put (W.nohid e) (fun n => by rw [e] at n; cases n) ⟨xs.set j v, upd_same, (rl.set j r3).mono ev⟩) ev g
      · exact g.elim
    · exact g.elim
  · exact g.elim
/-! ### x op= e -/
def mAug (i : Nat) (g : Op2) (m : ME) : MS := fun D σ S => match σ[i]? with
  | some (some x) => m σ S (fun w S1 => g x w S1 (fun z S2 => D.nx (σ.set i (some z)) S2)) (fun x S' => D.ex x σ S')
  | _ => False
theorem js_aug {i : Nat} {x : Str} {e : Expr} {m : ME} {op : Operator} {g : Op2} {pos pos' : Pos} (hN : X.N.Nodup) (hi : X.N[i]? = some x) (hx : Loc X.env.scope x) (he : JE X E e m) (ho : PIp X op (rd2 X.K g)) (hf : X.fn x = true ∨ X.env.scope.names.lookup x = some .local := by first | exact .inl rfl | exact .inr rfl | assumption) :
    JS X E (.AugAssign (.Name x pos') op e pos) (mAug i g m) := PS.weak (ps_aug hN hi hx he ho hf) fun σv H D q => by
  obtain ⟨P, S, σ, Dw, W, r, m, d⟩ := q
  unfold mAug at m
  split at m
  · rename_i w ew
    obtain ⟨v, ev, r1⟩ := r.2 i w ew
    refine ⟨v, ev, P, S, σ, _, _, W, r, m, fun v2 H1 w2 S1 W1 r2 e1 m1 => ?_, d.ex.at r⟩
    exact ⟨P, S1, w, w2, _, W1, r1.mono e1, r2, m1, fun v3 H2 w3 S2 W2 r3 e2 m2 => d.nx _ H2 _ S2 W2 ((r.mono (e1.trans e2)).set r3) (e1.trans e2) m2⟩
  · exact m.elim
def pyIAdd : Op2
  | .int i, .int j, S, Q => Q (.int (i + j)) S
  | .str x, .str y, S, Q => x.length + y.length ≤ sizeLine ∧ Q (.str (x ++ y)) S
  | _, _, _, _ => False
theorem i_add : PIp X .Add (rd2 X.K pyIAdd) := by
  intro pins s σ H x y v u Qv I rx ry h
  obtain ⟨P, S, w, z, Q, W, r1, r2, g, nq⟩ := h
  unfold pyIAdd at g
  split at g
  · rename_i i j
    rw [rp_int] at r1 r2
    exact iop_add pins s σ H x y v u Qv I rx ry ⟨i, j, r1, r2, nq.now W rpInt g⟩
  · rename_i i j
    rw [rp_str] at r1 r2
    exact iop_add_str pins s σ H x y v u Qv I rx ry ⟨i, j, r1, r2, g.1, nq.now W rpStr g.2⟩
  · exact g.elim
theorem i_sub : PIp X .Sub (rd2 X.K pySub) := by
  intro pins s σ H x y v u Qv I rx ry h
  obtain ⟨P, S, w, z, Q, W, r1, r2, g, nq⟩ := h
  unfold pySub at g
  split at g
  · rename_i i j
    rw [rp_int] at r1 r2
    exact iop_sub pins s σ H x y v u Qv I rx ry ⟨i, j, r1, r2, nq.now W rpInt g⟩
  · exact g.elim
/-! ### what a for walks -/
/-- J hands out the data ws one by one, as long as gd holds of the store -/
def Deliv (K : Frg) (P : Hid) (J : It) (S0 : Store) (H0 : Hp) (ws : List Dt) (gd : Store → Prop) : Prop :=
  ∀ (P' : Hid) (S : Store) (H : Hp) (i : Nat), (∀ b, P' b → P b ∨ H0 b = none) → Wd K P' S H → Evo S0 H0 S H → gd S →
    (∀ w, ws[i]? = some w → J.go i H ∧ ∀ x H', J.yld i H x H' → Wd K P' S H' ∧ Evo S H S H' ∧ Rp K P' S H' w x) ∧ (ws.length ≤ i → J.stop i H)
abbrev MI := Env → Store → (List Dt → (Store → Prop) → Store → Prop) → (Exn → Store → Prop) → Prop
def rdI (K : Frg) (E : WX) (m : MI) : TI := fun σv H R => ∃ P S σ Q Ex, Wd K P S H ∧ RpS K P S H σ σv ∧ m σ S Q Ex ∧
  (∀ J H' ws gd S', Wd K P S' H' → Evo S H S' H' → Deliv K P J S' H' ws gd → Q ws gd S' → R J H') ∧ NX K P S H Ex (fun c d H' => E c d σv H')
def JI (X : Cx) (E : WX) (tg it : Expr) (m : MI) : Prop := PI X tg it (rdI X.K E m)
theorem PI.weak {tg e : Expr} {t t' : TI} (h : PI X tg e t) (i : ∀ σ H Q, t' σ H Q → t σ H Q) : PI X tg e t' := ⟨fun pins s σ H Q I q => h.run pins s σ H Q I (i σ H Q q)⟩
/-- a list, a tuple -/
def mIter (m : ME) : MI := fun σ S Q Ex => m σ S (fun w S1 => match w with
  | .ref a => match S1 a with | some (.lst ws) => Q ws (fun S2 => S2 a = some (.lst ws)) S1 | _ => False
  | .lst ws => Q ws (fun _ => True) S1
  | .kl ws => Q ws (fun _ => True) S1
  | _ => False) Ex
def mIterT (m : ME) : MI := fun σ S Q Ex => m σ S (fun w S1 => match w with | .tup ws => Q ws (fun _ => True) S1 | _ => False) Ex
end
section
variable {K : Frg} {P P' : Hid} {S S0 : Store} {H H0 : Hp}
theorem Fz.live {a : Addr} {o : HO} (f : Fz P S0 H0 a o) (hp : ∀ b, P' b → P b ∨ H0 b = none) (e : Evo S0 H0 S H) : Fz P' S H a o :=
  ⟨(e a o f.2.1 f.1).1, (e a o f.2.1 f.1).2, fun q => (hp a q).elim f.2.2 fun n => by rw [f.1] at n; cases n⟩
theorem rp_live (hp : ∀ b, P' b → P b ∨ H0 b = none) (e : Evo S0 H0 S H) {w : Dt} {v : V} (r : Rp K P S0 H0 w v) : Rp K P' S H w v :=
  Rp.conv (fun a o h n p => ⟨(e a o n h).1, (e a o n h).2, fun q => (hp a q).elim p fun n => by rw [h] at n; cases n⟩) w v r
theorem rpl_live (hp : ∀ b, P' b → P b ∨ H0 b = none) (e : Evo S0 H0 S H) {w : List Dt} {v : List V} (r : RpL K P S0 H0 w v) : RpL K P' S H w v :=
  RpL.conv (fun a o h n p => ⟨(e a o n h).1, (e a o n h).2, fun q => (hp a q).elim p fun n => by rw [h] at n; cases n⟩) w v r
end
section
variable {X : Cx} {E : WX}
theorem RpL.none_at {K : Frg} {P : Hid} {S : Store} {H : Hp} {ws : List Dt} {xs : List V} (r : RpL K P S H ws xs) {i : Nat} (h : ws.length ≤ i) : xs[i]? = none := by
  rw [r.length] at h
  exact List.getElem?_eq_none h
theorem ji_list {tg l : Expr} {m : ME} (hl : JE X E l m) : JI X E tg l (mIter m) := PI.weak (pi_list hl) fun σv H R q => by
  obtain ⟨P, S, σ, Q, Ex, W, r, m, nj, nx⟩ := q
  refine ⟨P, S, σ, _, Ex, W, r, m, fun v H1 w S1 W1 r1 e1 m1 => ?_, nx⟩
  have fin : ∀ (a : Addr) (xs : List V) (ws : List Dt), SqL X.K H1 a xs → RpL X.K P S1 H1 ws xs → (∀ (P' : Hid) (S2 : Store) (H2 : Hp), (∀ b, P' b → P b ∨ H1 b = none) → Evo S1 H1 S2 H2 → SqL X.K H2 a xs) → Deliv X.K P (Itl X.K a) S1 H1 ws (fun _ => True) :=
    fun a xs ws h1 rl k P' S2 H2 i hp W2 e2 _ => by
      have h2 := k P' S2 H2 hp e2
      have rl2 := rpl_live hp e2 rl
      refine ⟨fun w ew => ?_, fun hi => ⟨xs, h2, by rw [← rl.length]; exact hi⟩⟩
      obtain ⟨x, ex, rx⟩ := rl2.get ew
      refine ⟨⟨xs, x, h2, ex⟩, fun y H' hy => ?_⟩
      obtain ⟨rfl, hy⟩ := hy
      have := (hy xs h2).symm.trans ex
      cases this
      exact ⟨W2, Evo.refl, rx⟩
  dsimp only at m1
  split at m1
  · rename_i a
    rw [rp_ref] at r1
    subst r1
    split at m1
    · rename_i ws e
      obtain ⟨xs, e2, rl⟩ := W1.sim a _ e
      refine ⟨a, rfl, ⟨xs, SqL.of e2⟩, nj _ H1 ws _ S1 W1 e1 (fun P' S2 H2 i hp W2 ev g => ?_) m1⟩
      obtain ⟨ys, e3, rl3⟩ := W2.sim a _ g
      refine ⟨fun w ew => ?_, fun hi => ⟨ys, SqL.of e3, by rw [← rl3.length]; exact hi⟩⟩
      obtain ⟨x, ex, rx⟩ := rl3.get ew
      refine ⟨⟨ys, x, SqL.of e3, ex⟩, fun y H' hy => ?_⟩
      obtain ⟨rfl, hy⟩ := hy
      have := (hy ys (SqL.of e3)).symm.trans ex
      cases this
      exact ⟨W2, Evo.refl, rx⟩
    · exact m1.elim
  · rename_i ws
    unfold Rp at r1
    obtain ⟨a, xs, rfl, f, rl⟩ := r1
    exact ⟨a, rfl, ⟨xs, f.sqL⟩, nj _ H1 ws _ S1 W1 e1 (fin a xs ws f.sqL rl fun P' S2 H2 hp e2 => SqL.of (e2 a _ f.2.1 f.1).1) m1⟩
  · rename_i ws
    unfold Rp at r1
    obtain ⟨a, xs, rfl, f, rl⟩ := r1
    refine ⟨a, rfl, ⟨xs, sqK_of f⟩, nj _ H1 ws _ S1 W1 e1 (fin a xs ws (sqK_of f) rl fun P' S2 H2 hp e2 => ?_) m1⟩
    rcases f with ⟨o, f⟩ | f
    · exact .inl (.inr ⟨o, (e2 a _ f.2.1 f.1).1⟩)
    · exact f.sq
  · exact m1.elim
theorem ji_tup {tg l : Expr} {m : ME} (hl : JE X E l m) : JI X E tg l (mIterT m) := PI.weak (pi_tup hl) fun σv H R q => by
  obtain ⟨P, S, σ, Q, Ex, W, r, m, nj, nx⟩ := q
  refine ⟨P, S, σ, _, Ex, W, r, m, fun v H1 w S1 W1 r1 e1 m1 => ?_, nx⟩
  dsimp only at m1
  split at m1
  · rename_i ws
    unfold Rp at r1
    obtain ⟨a, xs, rfl, f, rl⟩ := r1
    refine ⟨a, rfl, ⟨xs, sqT_of (.inl f)⟩, nj _ H1 ws _ S1 W1 e1 (fun P' S2 H2 i hp W2 e2 _ => ?_) m1⟩
    have h2 : SqT X.K H2 a xs := by
      exact SqT.of (e2 a _ f.2.1 f.1).1
    have rl2 := rpl_live hp e2 rl
    refine ⟨fun w ew => ?_, fun hi => ⟨xs, h2, by rw [← rl.length]; exact hi⟩⟩
    obtain ⟨x, ex, rx⟩ := rl2.get ew
    refine ⟨⟨xs, x, h2, ex⟩, fun y H' hy => ?_⟩
    obtain ⟨rfl, hy⟩ := hy
    have := (hy xs h2).symm.trans ex
    cases this
    exact ⟨W2, Evo.refl, rx⟩
  · exact m1.elim
/-- range -/
def rangeW (lo : Int) : Nat → List Dt
  | 0 => []
  | n + 1 => .int lo :: rangeW (lo + 1) n
theorem rangeW_len : ∀ (n : Nat) (lo : Int), (rangeW lo n).length = n
  | 0, _ => rfl
  | n + 1, lo => by unfold rangeW; rw [List.length_cons, rangeW_len n]
theorem rangeW_get : ∀ (n : Nat) (lo : Int) (i : Nat), i < n → (rangeW lo n)[i]? = some (.int (lo + i))
  | 0, _, i, h => by omega
  | n + 1, lo, 0, h => by unfold rangeW; simp
  | n + 1, lo, i + 1, h => by
    unfold rangeW
    rw [List.getElem?_cons_succ, rangeW_get n (lo + 1) i (by omega)]
    congr 2
    omega
theorem rng_deliv {K : Frg} {P : Hid} {S : Store} {H : Hp} {lo : Int} {n : Nat} : Deliv K P (Itr lo n) S H (rangeW lo n) (fun _ => True) := fun P' S2 H2 i hp W2 e2 _ => by
  refine ⟨fun w ew => ?_, fun hi => by rw [rangeW_len] at hi; exact hi⟩
  have hi : i < n := by
    have := (List.getElem?_eq_some_iff.mp ew).1
    rw [rangeW_len] at this
    exact this
  rw [rangeW_get n lo i hi] at ew
  cases ew
  refine ⟨hi, fun y H' hy => ?_⟩
  obtain ⟨rfl, rfl⟩ := hy
  exact ⟨W2, Evo.refl, rpInt⟩
def mRng1 (m : MA) : MI := fun σ S Q Ex => m σ S (fun ws S1 => match ws with | [.int n] => (-(2 ^ 62) ≤ n ∧ n < 2 ^ 62) ∧ Q (rangeW 0 n.toNat) (fun _ => True) S1 | _ => False) Ex
def mRng2 (m : MA) : MI := fun σ S Q Ex => m σ S (fun ws S1 => match ws with | [.int a, .int n] => (-(2 ^ 62) ≤ a ∧ a < 2 ^ 62 ∧ -(2 ^ 62) ≤ n ∧ n < 2 ^ 62) ∧ Q (rangeW a (n - a).toNat) (fun _ => True) S1 | _ => False) Ex
theorem ji_rng1 {tg a : Expr} {m : MA} {p pos : Pos} (hg : Gl X "range") (hm : X.mg "range" = none) (ha : JA X E [a] m) (hs : starEach [a] X.env = [(false, eval a X.env)] := by rfl) : JI X E tg (.Call (.Name "range" p) [a] [] pos) (mRng1 m) := PI.weak (pi_range1 hg hm ha hs) fun σv H R q => by
  obtain ⟨P, S, σ, Q, Ex, W, r, m, nj, nx⟩ := q
  refine ⟨P, S, σ, _, Ex, W, r, m, fun v H1 w S1 W1 r1 e1 m1 => ?_, nx⟩
  dsimp only at m1
  split at m1
  · obtain ⟨y, rfl, r2⟩ := r1.one
    rw [rp_int] at r2
    subst r2
    exact ⟨_, rfl, m1.1.1, m1.1.2, nj _ H1 _ _ S1 W1 e1 rng_deliv m1.2⟩
  · exact m1.elim
theorem ji_rng2 {tg a b : Expr} {m : MA} {p pos : Pos} (hg : Gl X "range") (hm : X.mg "range" = none) (ha : JA X E [a, b] m) (hs : starEach [a, b] X.env = [(false, eval a X.env), (false, eval b X.env)] := by rfl) (hs2 : starEach [b] X.env = [(false, eval b X.env)] := by rfl) : JI X E tg (.Call (.Name "range" p) [a, b] [] pos) (mRng2 m) := PI.weak (pi_range2 hg hm ha hs hs2) fun σv H R q => by
  obtain ⟨P, S, σ, Q, Ex, W, r, m, nj, nx⟩ := q
  refine ⟨P, S, σ, _, Ex, W, r, m, fun v H1 w S1 W1 r1 e1 m1 => ?_, nx⟩
  dsimp only at m1
  split at m1
  · obtain ⟨y, z, rfl, r2, r3⟩ := r1.two
    rw [rp_int] at r2 r3
    subst r2 r3
    exact ⟨_, _, rfl, m1.1, nj _ H1 _ _ S1 W1 e1 rng_deliv m1.2⟩
  · exact m1.elim
/-! ### loops -/
def forW (g : MG) (body : MS) (gd : Store → Prop) (D : EndsW) : List Dt → Env → Store → Prop
  | [], σ, S => gd S ∧ D.nx σ S
  | w :: ws, σ, S => gd S ∧ g w σ S (fun σ1 S1 => body { D with nx := forW g body gd D ws, ct := forW g body gd D ws, bk := D.nx } σ1 S1) D.ex
@[irreducible] def loopW (g : MG) (body : MS) (gd : Store → Prop) (D : EndsW) (ws : List Dt) (σ : Env) (S : Store) : Prop := forW g body gd D ws σ S
theorem loopW_eq {g : MG} {body : MS} {gd : Store → Prop} {D : EndsW} : loopW g body gd D = forW g body gd D := by
  funext ws σ S
  unfold loopW
  rfl
def mFor (mi : MI) (g : MG) (body : MS) : MS := fun D σ S => mi σ S (fun ws gd S1 => loopW g body gd D ws σ S1) (fun x S' => D.ex x σ S')
theorem js_for {tg iter : Expr} {body : List Stmt} {mi : MI} {g : MG} {mb : MS} {pos : Pos} (hp : PassesOwn (model X.prog X.w) X.A X.env X.xe) (hc : X.calm = true) (hi : JI X E tg iter mi) (hg : JG X E tg g) (hb : JSs X E body mb)
    (hs : ∀ x, foldedSetIterable iter X.env x = pure x := by intro _; rfl) : JS X E (.For tg iter body [] pos) (mFor mi g mb) := PS.weak (ps_for hp hc hi hg hb hs) fun σv H D q => by
  obtain ⟨P, S, σ, Dw, W, r, m, d⟩ := q
  unfold mFor at m
  simp only [loopW_eq] at m
  refine ⟨P, S, σ, _, _, W, r, m, fun J H1 ws gd S1 W1 e1 dl m1 => ?_, d.ex.at r⟩
  refine ⟨fun i k σv2 H2 => ∃ σ2 S2 us, Wd X.K P S2 H2 ∧ RpS X.K P S2 H2 σ2 σv2 ∧ Evo S1 H1 S2 H2 ∧ us = ws.drop i ∧ k = us.length ∧ i ≤ ws.length ∧ forW g mb gd Dw us σ2 S2, ⟨ws.length, σ, S1, ws, W1, r.mono e1, Evo.refl, rfl, rfl, Nat.zero_le _, m1⟩, ?_⟩
  rintro i k σv2 H2 ⟨σ2, S2, us, W2, r2, e2, eu, ek, hi, f⟩
  cases us with
  | nil =>
    unfold forW at f
    have hl : ws.length ≤ i := by
      have := congrArg List.length eu
      simp at this
      omega
    exact .inl ⟨(dl P S2 H2 i (fun b h => .inl h) W2 e2 f.1).2 hl, d.nx σv2 H2 σ2 S2 W2 r2 (e1.trans e2) f.2⟩
  | cons w us =>
    unfold forW at f
    have ew : ws[i]? = some w := by
      have := congrArg List.head? eu
      rw [List.head?_cons, List.head?_drop] at this
      exact this.symm
    have hil : i < ws.length := (List.getElem?_eq_some_iff.mp ew).1
    have eu2 : us = ws.drop (i + 1) := by
      have := congrArg List.tail eu
      rw [List.tail_cons, List.tail_drop] at this
      exact this
    obtain ⟨hgo, hy⟩ := (dl P S2 H2 i (fun b h => .inl h) W2 e2 f.1).1 w ew
    refine .inr ⟨hgo, fun σ' H' => ∃ σ3 S3, Wd X.K P S3 H' ∧ RpS X.K P S3 H' σ3 σ' ∧ Evo S1 H1 S3 H' ∧ forW g mb gd Dw us σ3 S3, fun σ' H' hN => ?_, fun x H' hx => ?_⟩
    · obtain ⟨σ3, S3, W3, r3, e3, f3⟩ := hN
      exact ⟨us.length, by rw [ek, List.length_cons]; omega, σ3, S3, us, W3, r3, e3, eu2, rfl, hil, f3⟩
    · obtain ⟨W3, e3, r3⟩ := hy x H' hx
      refine ⟨P, S2, σ2, w, _, _, W3, r2.mono e3, r3, f.2, fun σv4 H4 σ4 S4 W4 r4 e4 q4 => ?_, d.ex.after ((e1.trans e2).trans e3)⟩
      have e14 : Evo S1 H1 S4 H4 := (e2.trans e3).trans e4
      refine ⟨P, S4, σ4, _, W4, r4, q4, ⟨fun σv5 H5 σ5 S5 W5 r5 e5 q5 => ⟨σ5, S5, W5, r5, e14.trans e5, q5⟩, d.rt.after (e1.trans e14), d.nx.after (e1.trans e14), fun σv5 H5 σ5 S5 W5 r5 e5 q5 => ⟨σ5, S5, W5, r5, e14.trans e5, q5⟩, d.ex.after (e1.trans e14)⟩⟩
def whileN (mt : MT) (body : MS) (D : EndsW) : Nat → Env → Store → Prop
  | 0, _, _ => False
  | n + 1, σ, S => mt σ S (fun b S1 => br b (body { D with nx := whileN mt body D n, ct := whileN mt body D n, bk := D.nx } σ S1) (D.nx σ S1)) (fun x S' => D.ex x σ S')
def mWhile (mt : MT) (body : MS) : MS := fun D σ S => ∃ n, whileN mt body D n σ S
theorem js_while {c : Expr} {body : List Stmt} {mt : MT} {mb : MS} {pos : Pos} (hp : PassesOwn (model X.prog X.w) X.A X.env X.xe) (hc : JT X E c mt) (hb : JSs X E body mb) : JS X E (.While c body [] pos) (mWhile mt mb) := PS.weak (ps_while hp hc hb) fun σv H D q => by
  obtain ⟨P, S, σ, Dw, W, r, m, d⟩ := q
  obtain ⟨n, m⟩ := m
  refine ⟨fun k σv2 H2 => ∃ σ2 S2, Wd X.K P S2 H2 ∧ RpS X.K P S2 H2 σ2 σv2 ∧ Evo S H S2 H2 ∧ whileN mt mb Dw k σ2 S2, ⟨n, σ, S, W, r, Evo.refl, m⟩, ?_⟩
  rintro k σv2 H2 ⟨σ2, S2, W2, r2, e2, f⟩
  cases k with
  | zero => exact f.elim
  | succ k =>
    unfold whileN at f
    refine ⟨P, S2, σ2, _, _, W2, r2, f, fun b H3 S3 W3 e3 m3 => ?_, (d.ex.after e2).at r2⟩
    cases b with
    | true =>
      refine ⟨fun σ' H' => ∃ σ3 S3, Wd X.K P S3 H' ∧ RpS X.K P S3 H' σ3 σ' ∧ Evo S H S3 H' ∧ whileN mt mb Dw k σ3 S3, fun σ' H' hN => ⟨k, Nat.lt_succ_self k, hN⟩, ?_⟩
      have e4 := e2.trans e3
      exact ⟨P, S3, σ2, _, W3, r2.mono e3, m3, ⟨fun σv5 H5 σ5 S5 W5 r5 e5 q5 => ⟨σ5, S5, W5, r5, e4.trans e5, q5⟩, d.rt.after e4, d.nx.after e4, fun σv5 H5 σ5 S5 W5 r5 e5 q5 => ⟨σ5, S5, W5, r5, e4.trans e5, q5⟩, d.ex.after e4⟩⟩
    | false => exact d.nx σv2 H3 σ2 S3 W3 (r2.mono e3) (e2.trans e3) m3
end
end Dn

/-! Dn: clauses with and without a name, in one try. -/
namespace Dn
open PySem PySem.Spec PyProof.Rows L2
/-- what a clause asks for, once its class is met: the ends, the exception, its class, its dict, slots, heap -/
abbrev Ask := Ends → Addr → Value → Option Addr → L2.St → Hp → Prop
/-- of the clauses, one behind the other -/
def askAll (K : Frg) (W0 : WX) (D : Ends) : List (Value × Ask) → WX
  | [] => W0
  | (c, u) :: more => fun kx dx sv hp =>
    ∃ b, PySem.W.exmOne K kx c = some b ∧ (b = true → ∀ ea, hp ea = none → u D ea kx dx sv hp) ∧ (b = false → askAll K W0 D more kx dx sv hp)
/-- the ends of a suite whose clause has a name in slot i -/
def endsOff (D : Ends) (i : Nat) : Ends where
  nx := fun sv hp => D.nx (sv.set i none) hp
  rt := D.rt
  bk := fun sv hp => D.bk (sv.set i none) hp
  ct := fun sv hp => D.ct (sv.set i none) hp
/-- clauses of both kinds -/
inductive Mix (X : Cx) : List ExceptHandler → List (Value × Ask) → Prop
  | nil : Mix X [] []
  | bare {nm : Str} {c : Value} {ts : Addr → Value → Option Addr → TS} {fst : Stmt} {su : List Stmt} {q1 q2 : Pos} {hl : List ExceptHandler} {ul : List (Value × Ask)} (gc : Names X nm c)
      (gs : ∀ (ea : Addr) (ob : Obj) (kx : Value) (dx : Option Addr) (pl : List (Addr × Obj)), Zc kx dx ob → (∃ fv, ob.data = .fields fv) → PSs (X.suite ea ((ea, ob) :: pl)) (fst :: su) (ts ea kx dx)) (more : Mix X hl ul) :
      Mix X (.ExceptHandler (some (.Name nm q1)) none (fst :: su) q2 :: hl) ((c, fun D ea kx dx sv hp => ts ea kx dx D sv hp) :: ul)
  | named {nm vn : Str} {i : Nat} {c : Value} {ts : Addr → Value → Option Addr → TS} {fst : Stmt} {su : List Stmt} {q1 q2 : Pos} {hl : List ExceptHandler} {ul : List (Value × Ask)} (gc : Names X nm c) (gi : X.N[i]? = some vn) (gl : X.env.kindOf vn = some .local)
      (gs : ∀ (ea : Addr) (ob : Obj) (kx : Value) (dx : Option Addr) (pl : List (Addr × Obj)), Zc kx dx ob → (∃ fv, ob.data = .fields fv) → PSs (X.suite ea ((ea, ob) :: pl)) (fst :: su) (ts ea kx dx)) (more : Mix X hl ul) :
      Mix X (.ExceptHandler (some (.Name nm q1)) (some vn) (fst :: su) q2 :: hl) ((c, fun D ea kx dx sv hp => ts ea kx dx (endsOff D i) (sv.set i (some (.ref ea))) hp) :: ul)
section
variable {X : Cx} {bd : List Stmt} {hl : List ExceptHandler} {ul : List (Value × Ask)} {q0 : Pos} {tb : WX → TS} {W0 : WX}
theorem ps_try_mix {h1 : ExceptHandler} (hst : X.stack = X.env :: X.outer) (hfr0 : X.env.frame = some X.env.locals) (nd : X.N.Nodup) (tk : Takes X W0)
    (hbody : ∀ (W : WX) (pl : List (Addr × Obj)) (xw : Value → Shared → Prop), Takes (X.tr pl xw) W → PassesOwn (model X.prog X.w) X.A X.env xw → PSs (X.tr pl xw) bd (tb W))
    (mx : Mix X (h1 :: hl) ul) : PS X (.Try bd (h1 :: hl) [] [] q0) (fun D sv hp => tb (askAll X.K W0 D ul) D sv hp) := by
  refine ⟨fun pins s0 sv hp D inv hyp => ?_⟩
  have okx := inv.ok
  have fr2 : X.A.frames = some (X.env :: X.outer) := by rw [okx.frames, hst]
  refine wpAny_Try_except ?_
  refine wpAny_mono ((hbody (askAll X.K W0 D ul) (X.pn ++ pins) (fun er sa => wpAny (model X.prog X.w) X.A (noteFrame er X.env) (fun _ sb => wpAny (model X.prog X.w) X.A (setFlight er none) (fun _ sc =>
    wpAny (model X.prog X.w) X.A (handleBy er X.env (h1 :: hl)) (SP X pins D) X.xe sc) X.xe sb) X.xe sa) (fun uu sd got => ?_) PassesOwn.looking).run [] s0 sv hp D (inv.toTry _) hyp) (fun fl se hsp => ?_) (fun er se he => he)
  · obtain ⟨ea, B, sI, pins2, sv2, hp2, kx, dx, rfl, inv2, nb, up1, sky1, nea, hos, hag, asked⟩ := got
    have J : Inv X pins sv2 hp2 sI := inv2.ofTry okx
    have sky2 : Sky B (X.env :: X.outer) ea (Zc kx dx) X.env.locals sd.heap := by rw [← hst]; exact sky1
    show wpAny (model X.prog X.w) X.A (noteFrame (.ref ea) X.env) _ _ _
    refine Sky.land Zc.steady fr2 hfr0 sky2 fun hA flA upA => ?_
    have JA : Inv X pins sv2 hp2 { sd with heap := hA } := J.landed nb flA.1 (up1.trans upA) hos hag
    obtain ⟨obA, fvA, getA, zcA, datA⟩ := flA.there
    have apart : ∀ {hh : Heap} {o : Obj} {fv : Array Value}, hh.FunFrames B (X.env :: X.outer) → hh.get? ea = some o → o.data = .fields fv → ea ∉ frs (X.env :: X.outer) := fun {hh o fv} ff e1 e2 mem => by
      obtain ⟨_, o2, e3, nope⟩ := ff.mem mem
      rw [e1] at e3
      cases e3
      exact nope _ e2
    have nfrs := apart flA.2.2.1 getA datA
    have neL : ea ≠ X.env.locals := fun z => nfrs (List.mem_filterMap.mpr ⟨X.env, List.mem_cons_self, by rw [hfr0, z]⟩)
    have neF : ea ∉ X.fs := fun mem => by
      obtain ⟨en, hen, q⟩ := List.mem_filterMap.mp mem
      exact nfrs (List.mem_filterMap.mpr ⟨en, List.mem_cons_of_mem _ hen, q⟩)
    have SA := JA.suite getA datA nea neL neF
    have LT : PySem.W.Looks (model X.prog X.w) hA (typeOf (.ref ea)) kx := fun A' Q' E' s' keep q => wpAny_typeOf_ref (keep _ _ getA) (by rw [zcA.1]; exact q)
    have seen : ∀ {nm : Str} {c : Value} {q1 : Pos} {Q E : Value → Shared → Prop}, Names X nm c → Q c { sd with heap := hA } → wpAny (model X.prog X.w) (X.A.mark (some (.ref ea))) (eval (.Name nm q1) X.env) Q E { sd with heap := hA } := fun {nm c q1 Q E} hc q => by
      obtain ⟨hg, hdbg, hm | ⟨hm, hv, hnn⟩⟩ := hc
      · exact ld_glob (X := X.suite ea ((ea, obA) :: (X.pn ++ pins))) SA hg hm q hdbg
      · exact ld_blt (X := X.suite ea ((ea, obA) :: (X.pn ++ pins))) SA hg hm hv q hnn hdbg
    have all : ∀ {hs2 : List ExceptHandler} {us2 : List (Value × Ask)}, Mix X hs2 us2 → askAll X.K W0 D us2 kx dx sv2 hp2 → wpAny (model X.prog X.w) X.A (handleBy (.ref ea) X.env hs2) (SP X pins D) X.xe { sd with heap := hA } := by
      intro hs2 us2 mm
      induction mm with
      | nil =>
        intro w2
        refine wpAny_handleBy_nil ?_
        obtain ⟨k1, k2, k3, ob2, fv2, T2, oT2, ts2, get2, zc2, dat2, at1, rest⟩ := id flA
        unfold PySem.passOn
        refine wpAny_bind (wpAny_field get2 dat2 at1 ?_)
        rw [if_neg (show ¬ ((Value.ref T2 == Value.none) = true) from by simp)]
        have last : wpAny (model X.prog X.w) X.A (setFlight (.ref ea) X.env.frame) (fun _ sg => wpAny (model X.prog X.w) X.A (throw (.ref ea) : Sem Flow) (SP X pins D) X.xe sg) X.xe { sd with heap := hA } := by
          rw [hfr0]
          refine HandSPX.setFlight_upZ flA fun hB flB upB => wpAny_throw (tk _ _ ?_)
          exact ⟨ea, B, sI, pins, sv2, hp2, kx, dx, rfl, J, nb, (up1.trans upA).trans upB, .inr (.inr (by rw [hst]; exact flB)), nea, hos, hag, w2⟩
        first
          | exact wpAny_bind (wpAny_pure (wpAny_bind last))
          | exact wpAny_bind last
      | @bare nm c ts fst su q1 q2 hl2 ul2 gc gs more ih =>
        intro w2
        obtain ⟨b, hb, yes, no⟩ := w2
        refine wpAny_handleBy_cons (codeAny_handlers_test ?_) (fun q => nomatch q)
        refine seen gc ((PySem.W.exm_one (M := model X.prog X.w) JA.kIn LT hb).here ?_)
        cases b with
        | true =>
          refine codeAny_handlers_suite ?_
          refine HandSPX.lands_againZ flA fun hB flB upB => ?_
          have JB : Inv X pins sv2 hp2 { sd with heap := hB } := J.landed nb flB.1 ((up1.trans upA).trans upB) hos hag
          obtain ⟨obB, fvB, getB, zcB, datB⟩ := flB.there
          have SB := JB.suite getB datB nea neL neF
          refine wpAny_mono ((gs ea obB kx dx (X.pn ++ pins) zcB ⟨_, datB⟩).run [] _ _ hp2 _ SB (yes rfl ea nea)) (fun f3 s3 hs3 => ?_) (fun _ _ z => False.elim z)
          cases f3 with
          | next => obtain ⟨sv3, hp3, S3, q3⟩ := hs3; exact ⟨_, _, S3.unsuite okx, q3⟩
          | brk => obtain ⟨sv3, hp3, S3, q3⟩ := hs3; exact ⟨_, _, S3.unsuite okx, q3⟩
          | cont => obtain ⟨sv3, hp3, S3, q3⟩ := hs3; exact ⟨_, _, S3.unsuite okx, q3⟩
          | ret u3 => obtain ⟨v3, sv3, hp3, S3, r3, q3⟩ := hs3; exact ⟨_, _, _, S3.unsuite okx, r3, q3⟩
        | false =>
          show wpAny _ X.A (handleBy (.ref ea) X.env hl2) _ _ _
          exact ih (no rfl)
      | @named nm vn i c ts fst su q1 q2 hl2 ul2 gc gi gl gs more ih =>
        intro w2
        obtain ⟨b, hb, yes, no⟩ := w2
        refine wpAny_handleBy_cons (codeAny_handlers_test ?_) (fun q => nomatch q)
        refine seen gc ((PySem.W.exm_one (M := model X.prog X.w) JA.kIn LT hb).here ?_)
        cases b with
        | true =>
          refine codeAny_handlers_suite_as ?_
          refine HandSPX.lands_againZ flA fun hB flB upB => ?_
          have JB : Inv X pins sv2 hp2 { sd with heap := hB } := J.landed nb flB.1 ((up1.trans upA).trans upB) hos hag
          obtain ⟨obB, fvB, getB, zcB, datB⟩ := flB.there
          have SB := JB.suite getB datB nea neL neF
          refine store_ok (X := X.suite ea ((ea, obB) :: (X.pn ++ pins))) (v := .ref ea) SB nd gi (show Loc X.env.scope vn from .inl gl) rfl (fun sC SC => ?_) (.inr gl)
          refine wpAny_mono ((gs ea obB kx dx (X.pn ++ pins) zcB ⟨_, datB⟩).run [] sC _ hp2 _ SC (yes rfl ea nea)) (fun f3 s3 hs3 => ?_) (fun _ _ z => False.elim z)
          have off : ∀ {sv3 : L2.St} {hp3 : Hp} {Q3 : Shared → Prop}, Inv (X.suite ea ((ea, obB) :: (X.pn ++ pins))) [] sv3 hp3 s3 → (∀ s7, Inv X pins (sv3.set i none) hp3 s7 → Q3 s7) →
              wpAny (model X.prog X.w) X.A (do bindName X.env vn .none; unbindBehindTheSuite X.env vn q2) (fun _ s7 => Q3 s7) X.xe s3 := fun {sv3 hp3 Q3} S3 q3 => gone_ok (S3.unsuite okx) nd gi gl q3
          cases f3 with
          | next => obtain ⟨sv3, hp3, S3, q3⟩ := hs3; exact off S3 fun s7 J7 => ⟨_, _, J7, q3⟩
          | brk => obtain ⟨sv3, hp3, S3, q3⟩ := hs3; exact off S3 fun s7 J7 => ⟨_, _, J7, q3⟩
          | cont => obtain ⟨sv3, hp3, S3, q3⟩ := hs3; exact off S3 fun s7 J7 => ⟨_, _, J7, q3⟩
          | ret u3 => obtain ⟨v3, sv3, hp3, S3, r3, q3⟩ := hs3; exact off S3 fun s7 J7 => ⟨_, _, _, J7, r3, q3⟩
        | false =>
          show wpAny _ X.A (handleBy (.ref ea) X.env hl2) _ _ _
          exact ih (no rfl)
    exact all mx asked
  · cases fl with
    | next => obtain ⟨sv3, hp3, J3, q3⟩ := hsp; exact wpAny_execs_nil ⟨sv3, hp3, J3.ofTry okx, q3⟩
    | brk => obtain ⟨sv3, hp3, J3, q3⟩ := hsp; exact ⟨sv3, hp3, J3.ofTry okx, q3⟩
    | cont => obtain ⟨sv3, hp3, J3, q3⟩ := hsp; exact ⟨sv3, hp3, J3.ofTry okx, q3⟩
    | ret u3 => obtain ⟨v3, sv3, hp3, J3, r3, q3⟩ := hsp; exact ⟨v3, sv3, hp3, J3.ofTry okx, r3, q3⟩
end
end Dn

namespace Dn
open PySem PySem.Spec PyProof.Rows L2
/-! ### a def -/
def startW (N : Nat) (ws : List Dt) : Env := ws.map some ++ List.replicate (N - ws.length) none
theorem start_rp {K : Frg} {P : Hid} {S : Store} {H : Hp} {N : List Str} {ws : List Dt} {vs : List V} (r : RpL K P S H ws vs) : RpS K P S H (startW N.length ws) (L2.start N vs) := by
  unfold startW L2.start
  refine ⟨by simp [r.length], fun i w e => ?_⟩
  by_cases hi : i < ws.length
  · rw [List.getElem?_append_left (by simpa using hi), List.getElem?_map] at e
    cases q : ws[i]? with
    | none => rw [q] at e; cases e
    | some z =>
      rw [q] at e
      cases e
      obtain ⟨v, ev, rv⟩ := r.get q
      refine ⟨v, ?_, rv⟩
      rw [List.getElem?_append_left (by rw [List.length_map, ← r.length]; exact hi), List.getElem?_map, ev]
      rfl
  · rw [List.getElem?_append_right (by simpa using hi)] at e
    have := List.mem_of_getElem? e
    rw [List.mem_replicate] at this
    cases this.2
section
variable {P : Program} {w : World} {K : PySem.W.Frag} {mg : Str → Option Value} {base : Heap}
theorem ok_w {x qual : Str} {st : Stmt} {f : Addr} {fd : FuncData} {N ps : List Str} {k n : Nat} (F : L2.Fun K x qual st f fd) (Sc : FnScope N ps (defScope st)) (G : Fw) (hn : ps.length = n)
    (hbody : ∀ (cdv : Value) (A : Around) (outer : List PySem.Env) (s : Shared) (H : Hp) (E : XK), Room k (A.deeper (envOfC qual (defScope st) s.heap.objs.size f cdv)) →
      ∃ m, JSs (cxOf (L2.CX P w) P w K mg base N qual (defScope st) f cdv A outer s H E) (fun c d _ H' => E c d H') (defBody st) m ∧
        ∀ (ws : List Dt) (S : Store) (Q : Dt → Store → Prop) (Ex : Exn → Store → Prop), ws.length = n → G ws S Q Ex →
          m ⟨fun _ S' => clo Q .non S', clo Q, fun _ _ => False, fun _ _ => False, fun x _ S' => clX Ex x S'⟩ (startW N.length ws) S) :
    FnOk P w K mg base (L2.CX P w) (k + 1) f fd ps (spOf K n G) := by
  refine F.okX Sc (fun vs H Q E h => by rw [hn]; exact h.1) (fun cdv A outer s H vs Q E hr h => ?_)
  obtain ⟨m, hm, hg⟩ := hbody cdv A outer s H E hr
  obtain ⟨hl, P0, S, ws, Qw, Ew, W, rl, g, nq, nx⟩ := h
  refine ⟨_, hm, P0, S, startW N.length ws, _, W, start_rp rl, hg ws S Qw Ew (by rw [rl.length]; exact hl) g, ⟨fun σv' H' σ' S' W' r' e' q' => ?_, nq.clo, fun _ _ _ _ _ _ _ q => q.elim, fun _ _ _ _ _ _ _ q => q.elim, fun c d σv' H' x σ' S' W' rx r' e' q' => nx.clo c d H' x S' W' rx e' q'⟩⟩
  exact nq.clo .non H' .non S' W' rpNon e' q'
theorem FnOk.impW {k n : Nat} {f : Addr} {fd : FuncData} {ps : List Str} {G G' : Fw} {CX : CXT} (F : FnOk P w K mg base CX k f fd ps (spOf K n G)) (h : ∀ ws S Q Ex, ws.length = n → G' ws S Q Ex → G ws S Q Ex) : FnOk P w K mg base CX k f fd ps (spOf K n G') :=
  F.imp fun vs H Q E ⟨hl, P0, S, ws, Qw, Ew, W, rl, g, nq, nx⟩ => ⟨hl, P0, S, ws, Qw, Ew, W, rl, h ws S Qw Ew (by rw [rl.length]; exact hl) g, nq, nx⟩
end
/-! ### raise -/
section
variable {X : Cx} {E : WX}
abbrev MR := Env → Store → (Exn → Store → Prop) → (Exn → Store → Prop) → Prop
def rdR (K : Frg) (E : WX) (m : MR) : L2.St → Hp → XK → Prop := fun σv H Qx => ∃ P S σ Q Ex, Wd K P S H ∧ RpS K P S H σ σv ∧ m σ S Q Ex ∧ NX K P S H Q Qx ∧ NX K P S H Ex (fun c d H' => E c d σv H')
def JR (X : Cx) (E : WX) (e : Expr) (m : MR) : Prop := PMk X e (rdR X.K E m)
def mRaise (m : MR) : MS := fun D σ S => m σ S (fun x S' => D.ex x σ S') (fun x S' => D.ex x σ S')
theorem js_raise {e : Expr} {m : MR} {pos : Pos} (hc : X.calm = true) (tk : Takes X E) (h : JR X E e m) : JS X E (.Raise (some e) none pos) (mRaise m) := PS.weak (ps_raise hc tk h) fun σv H D q => by
  obtain ⟨P, S, σ, Dw, W, r, m, d⟩ := q
  exact ⟨P, S, σ, _, _, W, r, m, d.ex.at r, d.ex.at r⟩
/-- C(), C an own exception class without own __init__ -/
theorem pmk_own0 {C : Addr} {bmB : List Value} {B newId initId : String} {x : Str} {p pos : Pos} (F : ExcBaseFacts B newId initId bmB) (q : PySem.W.excIn X.K C bmB newId = true) (gC : X.mg x = some (.ref C)) (kC : PySem.W.keepIn X.K (.ref C) = true) (r : Raises X (.ref C)) (hg : Gl X x)
    (hdb : (x == ("__debug__" : Str)) = false := by decide) : PMk X (.Call (.Name x p) [] [] pos) (fun _ H Q => Q (.ref C) none H) := by
  intro pins s σ H Q I h
  refine wpAny_Call_Name_kw (ld_glob I hg gC ?_ hdb)
  refine PySem.W.callWith_K0 I.kIn kC ?_
  obtain ⟨bm, N, nm, qn, bs, hdct, sn, sub, ab, col, dd, k0, k1, k2, k3, k5, mN, hC, hN, hni, T⟩ := exc_obj I.kIn q
  refine wpAny_call_exc_subT F T hC hN hni (fun h' e hm => ?_) (by show 0 ≤ sizeLine; rw [sizeLine_eq]; omega)
  exact mk_of I hm r h (I.hok.gone hm.new)
def mExc0 (C : Addr) : MR := fun _ S Q _ => Q ⟨.ref C, none⟩ S
theorem jr_own0 {C : Addr} {e : Expr} (h : PMk X e (fun _ H Q => Q (.ref C) none H)) : JR X E e (mExc0 C) := fun pins s σ H Q I q => by
  refine h pins s σ H Q I ?_
  obtain ⟨P, S, σ, Qw, Ex, W, r, m, nq, nx⟩ := q
  exact nq (.ref C) none H ⟨.ref C, none⟩ S W ⟨rfl, rfl⟩ Evo.refl m
/-- what the walk asks of an exception class without fields: it stands at C; what it makes may be raised -/
structure Exc0 (K : Frg) (mg : Str → Option Value) (x : Str) (C : Addr) : Prop where
  gC : mg x = some (.ref C)
  xC : PySem.W.excIn K C [.type "ValueError", .type "Exception", .type "BaseException", .type "object"] "ValueError.__new__" = true
  kC : PySem.W.keepIn K (.ref C) = true
  bC : PySem.W.subIn K (.ref C) (.type "BaseException") = some true
  tC : PySem.W.typeIn K (.ref C) = some (.type "type")
theorem jr_exc0 {x : Str} {C : Addr} {p pos : Pos} (T : Exc0 X.K X.mg x C) (hg : Gl X x) (hdb : (x == ("__debug__" : Str)) = false := by decide) : JR X E (.Call (.Name x p) [] [] pos) (mExc0 C) :=
  jr_own0 (pmk_own0 PySem.F.excBase_ValueError T.xC T.gC T.kC (raises_own T.bC T.tC) hg hdb)
/-! ### try -/
def handleW (K : Frg) : List (Value × (Exn → MS)) → Exn → MS
  | [], x => fun D σ S => D.ex x σ S
  | (c, ms) :: r, x => fun D σ S => ∃ b, PySem.W.exmOne K x.cls c = some b ∧ (b = true → ms x { D with ex := fun _ _ _ => False } σ S) ∧ (b = false → handleW K r x D σ S)
def mTry (K : Frg) (mb : MS) (hs : List (Value × (Exn → MS))) : MS := fun D σ S => mb { D with ex := fun x σ' S' => handleW K hs x D σ' S' } σ S
theorem RpS.forget {K : Frg} {P : Hid} {S : Store} {H : Hp} {σ : Env} {σv : L2.St} (h : RpS K P S H σ σv) (i : Nat) : RpS K P S H (σ.set i none) (σv.set i none) := by
  refine ⟨by rw [List.length_set, List.length_set]; exact h.1, fun j z q => ?_⟩
  by_cases e : i = j
  · subst e
    by_cases l : i < σ.length
    · rw [List.getElem?_set_self l] at q; cases q
    · rw [List.getElem?_eq_none (by rw [List.length_set]; omega)] at q; cases q
  · rw [List.getElem?_set_ne e] at q ⊢
    exact h.2 j z q
/-- a clause with a name: in slot i the exception with its fields -/
def mAs (i : Nat) (ms : Addr → Value → Option Addr → MS) : Exn → MS := fun x D σ S => ∃ ns ws, x.fs = some (ns, ws) ∧
  ∀ a dd, ms a x.cls (some dd) ⟨fun σ' S' => D.nx (σ'.set i none) S', D.rt, fun σ' S' => D.bk (σ'.set i none) S', fun σ' S' => D.ct (σ'.set i none) S', D.ex⟩ (σ.set i (some (.exn a dd ns ws))) S
abbrev NoX : WX := fun _ _ _ _ => False
inductive JH (X : Cx) : List ExceptHandler → List (Value × (Exn → MS)) → List (Value × Ask) → Prop
  | nil : JH X [] [] []
  | cons {x : Str} {c : Value} {ms : MS} {b₀ : Stmt} {suite : List Stmt} {np pos' : Pos} {hds : List ExceptHandler} {l : List (Value × (Exn → MS))} {t : List (Value × Ask)} (hc : Names X x c)
      (hsu : ∀ (a : Addr) (oe : Obj) (pn : List (Addr × Obj)), JSs (X.suite a ((a, oe) :: pn)) NoX (b₀ :: suite) ms) (r : JH X hds l t) :
      JH X (.ExceptHandler (some (.Name x np)) none (b₀ :: suite) pos' :: hds) ((c, fun _ => ms) :: l) ((c, fun D _ _ _ σv H => rdS X.K NoX ms D σv H) :: t)
  | named {x n : Str} {i : Nat} {c : Value} {ms : Addr → Value → Option Addr → MS} {b₀ : Stmt} {suite : List Stmt} {np pos' : Pos} {hds : List ExceptHandler} {l : List (Value × (Exn → MS))} {t : List (Value × Ask)} (hc : Names X x c) (gi : X.N[i]? = some n) (gl : X.env.kindOf n = some .local)
      (hsu : ∀ (a : Addr) (oe : Obj) (cls : Value) (d : Option Addr) (pn : List (Addr × Obj)), Zc cls d oe → (∃ fv, oe.data = .fields fv) → JSs (X.suite a ((a, oe) :: pn)) NoX (b₀ :: suite) (ms a cls d)) (r : JH X hds l t) :
      JH X (.ExceptHandler (some (.Name x np)) (some n) (b₀ :: suite) pos' :: hds) ((c, mAs i ms) :: l) ((c, fun D ea kx dx σv H => rdS X.K NoX (ms ea kx dx) (endsOff D i) (σv.set i (some (.ref ea))) H) :: t)
theorem JH.ok {hds : List ExceptHandler} {l : List (Value × (Exn → MS))} {t : List (Value × Ask)} (h : JH X hds l t) : Mix X hds t := by
  induction h with
  | nil => exact .nil
  | @cons x c ms b₀ suite np pos' hds l t hc hsu r ih => exact .bare (ts := fun _ _ _ => rdS X.K NoX ms) hc (fun a oe cls d pn _ _ => hsu a oe pn) ih
  | @named x n i c ms b₀ suite np pos' hds l t hc gi gl hsu r ih => exact .named (ts := fun ea kx dx => rdS X.K NoX (ms ea kx dx)) hc gi gl (fun a oe cls d pn z1 z2 => hsu a oe cls d pn z1 z2) ih
theorem JH.wish {hds : List ExceptHandler} {l : List (Value × (Exn → MS))} {t : List (Value × Ask)} (h : JH X hds l t) {P : Hid} {S : Store} {H : Hp} {σ : Env} {σv : L2.St} {Dw : EndsW} {D : Ends} {x : Exn} {cls : Value} {d : Option Addr}
    (W : Wd X.K P S H) (r : RpS X.K P S H σ σv) (rx : RpX X.K P S H x cls d) (dk : DOk X.K P S H Dw D E) (q : handleW X.K l x Dw σ S) : askAll X.K E D t cls d σv H := by
  induction h with
  | nil => exact dk.ex cls d σv H x σ S W rx r Evo.refl q
  | cons hc hsu r' ih =>
    obtain ⟨b, hb, h1, h2⟩ := q
    refine ⟨b, by rw [rx.1]; exact hb, fun e a _ => ?_, fun e => ih (h2 e)⟩
    exact ⟨P, S, σ, _, W, r, h1 e, ⟨dk.nx, dk.rt, dk.bk, dk.ct, fun _ _ _ _ _ _ _ _ _ _ _ q => q.elim⟩⟩
  | @named x1 n i c ms b₀ suite np pos' hds l t hc gi gl hsu r' ih =>
    obtain ⟨b, hb, h1, h2⟩ := q
    refine ⟨b, by rw [rx.1]; exact hb, fun e a _ => ?_, fun e => ih (h2 e)⟩
    obtain ⟨ns, ws, ef, m⟩ := h1 e
    obtain ⟨c1, fs⟩ := x
    cases ef
    obtain ⟨e1, dd, xs, e2, f, z, rl⟩ := rx
    cases e1
    subst e2
    exact ⟨P, S, _, _, W, r.set (w := .exn a dd ns ws) (v := .ref a) (by unfold Rp; exact ⟨xs, rfl, f, z, rl⟩), m a dd,
      ⟨fun σv' H' σ' S' W' r' e' q' => dk.nx _ H' _ S' W' (r'.forget i) e' q', dk.rt, fun σv' H' σ' S' W' r' e' q' => dk.bk _ H' _ S' W' (r'.forget i) e' q', fun σv' H' σ' S' W' r' e' q' => dk.ct _ H' _ S' W' (r'.forget i) e' q',
        fun _ _ _ _ _ _ _ _ _ _ _ q => q.elim⟩⟩
theorem js_try {body : List Stmt} {h0 : ExceptHandler} {hds : List ExceptHandler} {mb : MS} {l : List (Value × (Exn → MS))} {t : List (Value × Ask)} {pos : Pos} (hs : X.stack = X.env :: X.outer) (hf : X.env.frame = some X.env.locals) (nd : X.N.Nodup) (tk : Takes X E)
    (hb : ∀ (W : WX) (pn : List (Addr × Obj)) (xe : Value → Shared → Prop), Takes (X.tr pn xe) W → PassesOwn (model X.prog X.w) X.A X.env xe → JSs (X.tr pn xe) W body mb) (hh : JH X (h0 :: hds) l t) : JS X E (.Try body (h0 :: hds) [] [] pos) (mTry X.K mb l) :=
  PS.weak (ps_try_mix (tb := fun W => rdS X.K W mb) hs hf nd tk (fun W pn xe h1 h2 => hb W pn xe h1 h2) hh.ok) fun σv H D q => by
    obtain ⟨P, S, σ, Dw, W, r, m, d⟩ := q
    refine ⟨P, S, σ, _, W, r, m, ⟨d.nx, d.rt, d.bk, d.ct, fun cls dd σv' H' x σ' S' W' rx r' e' q' => ?_⟩⟩
    exact hh.wish W' r' rx (d.after e') q'
/-- err.f in the suite of a clause with a name -/
def mXf (a : Addr) (cls : Value) (d : Option Addr) (C : Addr) (f : Str) (me : ME) : ME := fun σ S Q Ex => me σ S (fun w S1 => match w with
  | .exn a' dd ns ws => a' = a ∧ cls = .ref C ∧ d = some dd ∧ ∃ u, (ns.zip ws).lookup f = some u ∧ Q u S1
  | _ => False) Ex
theorem zip_at {K : Frg} {P : Hid} {S : Store} {H : Hp} {f : Str} {u : Dt} : ∀ {ns : List Str} {ws : List Dt} {xs : List V}, RpL K P S H ws xs → (ns.zip ws).lookup f = some u → ∃ v, (ns.zip xs).lookup f = some v ∧ Rp K P S H u v
  | [], ws, xs, r, h => by cases h
  | n :: ns, [], xs, r, h => by cases h
  | n :: ns, w :: ws, xs, r, h => by
    unfold RpL at r
    obtain ⟨v, rr, rfl, r1, r2⟩ := r
    rw [List.zip_cons_cons, List.lookup_cons] at h ⊢
    cases e : f == n with
    | true =>
      rw [e] at h
      cases h
      exact ⟨v, rfl, r1⟩
    | false =>
      rw [e] at h
      exact zip_at r2 h
theorem je_xf {a C : Addr} {oe : Obj} {cls : Value} {d : Option Addr} {pn : List (Addr × Obj)} {e : Expr} {me : ME} {pos : Pos} {n : Str} {E : WX} (T : XfC X.K C) (hno : PySem.W.findIn X.K (.ref C) n = some none) (hz : Zc cls d oe) (hf : ∃ fv, oe.data = .fields fv)
    (he : JE (X.suite a ((a, oe) :: pn)) E e me) (hb : attributeBase e n X.env (eval e X.env) = eval e X.env := by rfl) : JE (X.suite a ((a, oe) :: pn)) E (.Attribute e n pos) (mXf a cls d C n me) :=
  PE.weak (pe_xf T hno hz hf he hb) fun σv H Qv q => by
    obtain ⟨P, S, σ, Q, Ex, W, r, m, nq, nx⟩ := q
    refine ⟨P, S, σ, _, Ex, W, r, m, fun v H' w S' W' r' e' q' => ?_, nx⟩
    cases w with
    | exn a' dd ns ws =>
      obtain ⟨e1, e2, e3, u, l, q⟩ := (q' : a' = a ∧ cls = .ref C ∧ d = some dd ∧ ∃ u, (ns.zip ws).lookup n = some u ∧ Q u S')
      unfold Rp at r'
      obtain ⟨xs, ev, f, z, rl⟩ := r'
      obtain ⟨v2, l2, rv⟩ := zip_at rl l
      exact ⟨by rw [ev, e1], e2, dd, _, v2, e3, f.1, l2, nq v2 H' u S' W' rv e' q⟩
    | _ => exact (show False from q').elim
/-- an own exception class whose __init__ keeps one field -/
structure Exc1 (P : Program) (w : World) (K : Frg) (mg : Str → Option Value) (base : Heap) (x f : Str) (C : Addr) : Prop where
  gC : mg x = some (.ref C)
  oC : OexC K C
  fC : XfC K C
  no : PySem.W.findIn K (.ref C) f = some none
  ini : ∃ (fI : Addr) (fd : FuncData), PySem.W.findIn K (.ref C) "__init__" = some (some (.ref fI)) ∧ PySem.W.typeIn K (.ref fI) = some (.type "function") ∧ Binds K fd ["self", f] [] ∧
    FnOk P w K mg base (L2.CX P w) 1 fI fd ["self", f] (fun vs H Q _ => ∃ a y, vs = [.ref a, y] ∧ H a = some (exo a C none) ∧ ∀ d, H d = none → d ≠ a → Q .non (upd (upd H d (exd d [(f, y)])) a (exo a C (some d))))
def mExc1 (C : Addr) (f : Str) (me : ME) : MR := fun σ S Q Ex => me σ S (fun w S1 => Q ⟨.ref C, some ([f], [w])⟩ S1) Ex
theorem cx_none {P : Program} {w : World} {fs : List PySem.Env} {H : Hp} {s : Shared} {e : Value} {s' : Shared} (h : L2.CX P w fs H s (fun _ _ _ => False) e s') : False := by
  obtain ⟨_, _, _, _, _, _, _, _, _, _, _, _, z⟩ := h
  exact z
theorem jr_exc1 {x f : Str} {C : Addr} {p pos : Pos} {e : Expr} {me : ME} (T : Exc1 X.prog X.w X.K X.mg X.base x f C) (hr : Room 2 X.A) (hg : Gl X x) (he : JE X E e me)
    (hdb : (x == ("__debug__" : Str)) = false := by decide) (hs : starEach [e] X.env = (false, eval e X.env) :: starEach [] X.env := by rfl) (hpl : (backTo pos (starEach [] X.env)).any (·.1) = false := by rfl) :
    JR X E (.Call (.Name x p) [e] [] pos) (mExc1 C f me) := fun pins s σv H Qx I q => by
  obtain ⟨fI, fd, iC, tI, hb, F1⟩ := T.ini
  refine pmk_oex T.oC iC tI F1 hr hb (dvs := []) .nil (fun _ _ _ _ er s' _ c => (cx_none c).elim) hg T.gC (ja_cons he ja_nil hs) hdb hs hpl pins s σv H Qx I ?_
  obtain ⟨P, S, σ, Q, Ex, W, r, m, nq, nx⟩ := q
  refine ⟨P, S, σ, fun ws S1 => match ws with
    | [w] => Q ⟨.ref C, some ([f], [w])⟩ S1
    | _ => False, Ex, W, r, m, ?_, nx⟩
  intro vs H1 ws S1 W1 rl e1 q1
  match ws, q1 with
  | [w], q =>
    unfold RpL at rl
    obtain ⟨v, rr, rfl, rv, rl⟩ := rl
    unfold RpL at rl
    subst rl
    refine ⟨by show 1 ≤ 1000; decide, fun a ha => ⟨a, v, rfl, upd_same, fun d hd nd => ⟨rfl, d, [(f, v)], upd_same, by rw [upd_ne nd, upd_same], by rw [upd_ne nd] at hd; exact hd, ?_⟩⟩⟩
    have hd1 : H1 d = none := by rw [upd_ne nd] at hd; exact hd
    have eh : upd (L2.del (upd (upd (upd H1 a (exo a C none)) d (exd d [(f, v)])) a (exo a C (some d))) a) d (.xd [(f, v)]) = upd H1 d (.xd [(f, v)]) := by
      funext b
      by_cases h1 : b = d
      · rw [h1, upd_same, upd_same]
      · rw [upd_ne h1, upd_ne h1]
        by_cases h2 : b = a
        · rw [h2, L2.del_same, ha]
        · rw [L2.del_ne h2, upd_ne h2, upd_ne h1, upd_ne h2]
    rw [eh]
    exact nq _ _ _ ⟨.ref C, some ([f], [w])⟩ S1 (W1.new hd1) ⟨rfl, d, [v], rfl, Fz.new W1 hd1, rfl, .cons (rv.mono (Evo.new hd1)) .nil⟩ (e1.trans (Evo.new hd1)) q
/-! ### list comprehensions -/
def wipeW (σ : Env) : List Nat → Env
  | [] => σ
  | v :: vs => (wipeW σ vs).set v none
theorem RpS.wipe {K : Frg} {P : Hid} {S : Store} {H : Hp} {σ : Env} {σv : L2.St} (h : RpS K P S H σ σv) : ∀ vs : List Nat, RpS K P S H (wipeW σ vs) (L2.wipe σv vs)
  | [] => h
  | v :: vs => (RpS.wipe h vs).forget v
/-- the target of a comprehension: names -/
abbrev BW := Dt → Env → Option Env
def Binds1 (K : Frg) (g : TG) (vs : List Nat) (b : BW) : Prop := ∀ (P : Hid) (S : Store) (H : Hp) (w : Dt) (v : V) (σ σ' : Env) (σv : L2.St) (R : L2.St → Hp → Prop), Wd K P S H → RpS K P S H σ σv → Rp K P S H w v → b w (wipeW σ vs) = some σ' →
  (∀ σv', RpS K P S H σ' σv' → L2.wipe σv' vs = L2.wipe σv vs → R σv' H) → g v (L2.wipe σv vs) H R
def bName (i : Nat) : BW := fun w σ => some (σ.set i (some w))
def bPair (i j : Nat) : BW := fun w σ => match w with
  | .tup [a, b] => some ((σ.set i (some a)).set j (some b))
  | _ => none
theorem binds_name {K : Frg} {i : Nat} : Binds1 K (gName i) [i] (bName i) := fun P S H w v σ σ' σv R W r rw' e k => by
  cases e
  refine k _ ((r.wipe [i]).set rw') ?_
  show (((σv.set i none).set i (some v)).set i none) = σv.set i none
  rw [List.set_set, List.set_set]
theorem binds_pair {K : Frg} {i j : Nat} (h : i ≠ j) : Binds1 K (gTup K 2 (gCons (gName i) (gCons (gName j) gNil))) [i, j] (bPair i j) := fun P S H w v σ σ' σv R W r rw' e k => by
  unfold bPair at e
  split at e
  · rename_i a b
    cases e
    obtain ⟨p, xs, rfl, h1, rl⟩ := rp_tup rw'
    obtain ⟨x, y, rfl, ra, rb⟩ := rl.two
    refine ⟨p, _, rfl, h1, rfl, x, [y], rfl, y, [], rfl, rfl, ?_⟩
    refine k _ (((r.wipe [i, j]).set ra).set rb) ?_
    show (((((σv.set j none).set i none).set i (some x)).set j (some y)).set j none).set i none = (σv.set j none).set i none
    rw [List.set_set, List.set_set, List.set_comm _ _ (Ne.symm h), List.set_set, List.set_comm _ _ h, List.set_set, List.set_comm _ _ (Ne.symm h)]
  · cases e
def JTs (X : Cx) (E : WX) (es : List Expr) (m : MT) : Prop := PTs X es (rdT X.K E m)
def mYes : MT := fun _ S Q _ => Q true S
theorem jts_nil : JTs X E [] mYes := ⟨fun pins s σv H Qv I q => by
  obtain ⟨P, S, σ, Q, Ex, W, r, m, nq, nx⟩ := q
  exact pts_nil.run pins s σv H Qv I (nq true H S W Evo.refl m)⟩
theorem jts_one {e : Expr} {m : MT} (h : JT X E e m) : JTs X E [e] m := pts_one h
def compW (b : BW) (mt : MT) (me : ME) (σ : Env) (vs : List Nat) (gd : Store → Prop) (Q : List Dt → Store → Prop) : List Dt → List Dt → Store → Prop
  | [], acc, S => gd S ∧ Q acc S
  | w :: ws, acc, S => gd S ∧ match b w (wipeW σ vs) with
    | some σ1 => mt σ1 S (fun c S2 => br c (me σ1 S2 (fun y S3 => acc.length < sizeLine ∧ compW b mt me σ vs gd Q ws (acc ++ [y]) S3) (fun _ _ => False)) (compW b mt me σ vs gd Q ws acc S2)) (fun _ _ => False)
    | none => False
def mComp (mi : MI) (b : BW) (mt : MT) (me : ME) (vs : List Nat) : ML := fun σ S Q Ex => mi σ S (fun ws gd S1 => compW b mt me σ vs gd Q ws [] S1) Ex
def hdel (H : Hp) (a : Addr) : Hp := fun b => if b = a then none else H b
theorem comp_weak {K : Frg} {mi : MI} {g : TG} {b : BW} {mt : MT} {me : ME} {vs : List Nat} (hb : Binds1 K g vs b) {σv : L2.St} {H : Hp} {Qv : VK} (h : rdL K E (mComp mi b mt me vs) σv H Qv) :
    tLc (rdI K E mi) g (rdT K (fun _ _ _ _ => False) mt) (rdE K (fun _ _ _ _ => False) me) vs σv H Qv := by
  obtain ⟨P, S, σ, Q, Ex, W, r, m, nl, nx⟩ := h
  refine ⟨P, S, σ, _, Ex, W, r, m, fun J H1 ws gd S1 W1 e1 dl m1 => ?_, nx⟩
  intro Dl hD
  have fr := W1.free hD
  have hp : ∀ b, (P b ∨ b = Dl) → P b ∨ H1 b = none := fun b h => h.imp id fun z => by rw [z]; exact hD
  have nD : ∀ {a o}, H1 a = some o → a ≠ Dl := fun h z => by rw [z, hD] at h; cases h
  refine ⟨fun i k H2 => ∃ S2 us acc xs, Wd K (fun b => P b ∨ b = Dl) S2 H2 ∧ Evo S1 H1 S2 H2 ∧ H2 Dl = some (.lst xs) ∧ RpL K (fun b => P b ∨ b = Dl) S2 H2 acc xs ∧ us = ws.drop i ∧ k = us.length ∧ i ≤ ws.length ∧ compW b mt me σ vs gd Q us acc S2, ⟨ws.length, S1, ws, [], [], ?_, Evo.new hD, upd_same, RpL.nil, rfl, rfl, Nat.zero_le _, m1⟩, ?_⟩
  · refine ⟨fun a o e => ?_, fun a q => ?_⟩
    · refine (W1.sim a o e).conv (fun a' o' h' n' p' => ⟨by rw [upd_ne (nD h')]; exact h', n', fun q => q.elim p' fun z => nD h' z⟩) (fun u hu => by rw [upd_ne (nD hu)]; exact hu)
    · rcases q with q | q
      · obtain ⟨h1, u, h2⟩ := W1.hid a q
        exact ⟨h1, u, by rw [upd_ne (nD h2)]; exact h2⟩
      · rw [q]; exact ⟨fr.1, _, upd_same⟩
  · rintro i k H2 ⟨S2, us, acc, xs, W2, e2, hx, rl, eu, ek, hi, f⟩
    have sD : S2 Dl = none := (W2.hid Dl (.inr rfl)).1
    cases us with
    | nil =>
      unfold compW at f
      have hl : ws.length ≤ i := by
        have := congrArg List.length eu
        simp at this
        omega
      refine .inl ⟨(dl _ S2 H2 i hp W2 e2 f.1).2 hl, ?_⟩
      have dn : ∀ {a : Addr}, a ≠ Dl → hdel H2 Dl a = H2 a := fun {a} z => by unfold hdel; rw [if_neg z]
      have c : ∀ a o, H2 a = some o → S2 a = none → ¬ (P a ∨ a = Dl) → hdel H2 Dl a = some o ∧ S2 a = none ∧ ¬ P a := fun a o h n q => ⟨by rw [dn fun z => q (.inr z)]; exact h, n, fun z => q (.inl z)⟩
      refine nl Dl (hdel H2 Dl) H2 xs acc S2 ⟨fun a o e => ?_, fun a q => ?_⟩ (by unfold hdel; rw [if_pos rfl]) ?_ (rl.conv c) (e1.trans fun a o n h => ?_) f.2
      · exact (W2.sim a o e).conv c fun u hu => by rw [dn fun z => by rw [z, sD] at e; cases e]; exact hu
      · obtain ⟨h1, u, h2⟩ := W2.hid a (.inl q)
        exact ⟨h1, u, by rw [dn fun z => fr.2 (z ▸ q)]; exact h2⟩
      · funext a
        by_cases z : a = Dl
        · rw [z, upd_same]; exact hx
        · rw [upd_ne z, dn z]
      · obtain ⟨h1, h2⟩ := e2 a o n h
        exact ⟨by rw [dn (nD h)]; exact h1, h2⟩
    | cons w us =>
      unfold compW at f
      have ew : ws[i]? = some w := by
        have := congrArg List.head? eu
        rw [List.head?_cons, List.head?_drop] at this
        exact this.symm
      have hil : i < ws.length := (List.getElem?_eq_some_iff.mp ew).1
      have eu2 : us = ws.drop (i + 1) := by
        have := congrArg List.tail eu
        rw [List.tail_cons, List.tail_drop] at this
        exact this
      obtain ⟨hgo, hy⟩ := (dl _ S2 H2 i hp W2 e2 f.1).1 w ew
      refine .inr ⟨hgo, fun H' => ∃ S3 acc' xs', Wd K (fun b => P b ∨ b = Dl) S3 H' ∧ Evo S1 H1 S3 H' ∧ H' Dl = some (.lst xs') ∧ RpL K (fun b => P b ∨ b = Dl) S3 H' acc' xs' ∧ compW b mt me σ vs gd Q us acc' S3, fun H' hN => ?_, fun x H' hx' => ?_⟩
      · obtain ⟨S3, acc', xs', W3, e3, h3, rl3, f3⟩ := hN
        exact ⟨us.length, by rw [ek, List.length_cons]; omega, S3, us, acc', xs', W3, e3, h3, rl3, eu2, rfl, hil, f3⟩
      · obtain ⟨W3, e3, r3⟩ := hy x H' hx'
        have f2 := f.2
        split at f2
        · rename_i σ1 eb
          have rs : RpS K (fun b => P b ∨ b = Dl) S2 H' σ σv := ⟨r.1, fun j z q => by
            obtain ⟨v, a, b⟩ := (r.mono e1).2 j z q
            exact ⟨v, a, rp_live hp (e2.trans e3) b⟩⟩
          refine hb _ S2 H' w x σ σ1 σv _ W3 rs r3 eb fun σv' rs' ewp => ⟨ewp, _, S2, σ1, _, _, W3, rs', f2, fun cc H4 S4 W4 e4 q4 => ?_, fun _ _ _ _ _ _ _ _ q => q.elim⟩
          have h4 : H4 Dl = some (.lst xs) ∧ S4 Dl = none := (e3.trans e4) Dl _ sD hx
          cases cc with
          | true =>
            refine ⟨_, S4, σ1, _, _, W4, rs'.mono e4, q4, fun y H5 wy S5 W5 r5 e5 q5 => ?_, fun _ _ _ _ _ _ _ _ q => q.elim⟩
            have h5 := e5 Dl _ h4.2 h4.1
            have c : ∀ a o, H5 a = some o → S5 a = none → ¬ (P a ∨ a = Dl) → upd H5 Dl (.lst (xs ++ [y])) a = some o ∧ S5 a = none ∧ ¬ (P a ∨ a = Dl) := fun a o h n q => ⟨by rw [upd_ne fun z => q (.inr z)]; exact h, n, q⟩
            refine ⟨xs, h5.1, by rw [← rl.length]; exact q5.1, S5, acc ++ [wy], xs ++ [y], ⟨fun a o e => ?_, fun a q => ?_⟩, fun a o n h => ?_, upd_same, ?_, q5.2⟩
            · exact (W5.sim a o e).conv c fun u hu => by rw [upd_ne fun z => by rw [z, h5.2] at e; cases e]; exact hu
            · by_cases z : a = Dl
              · rw [z]; exact ⟨h5.2, _, upd_same⟩
              · obtain ⟨h1, u, h2⟩ := W5.hid a q
                exact ⟨h1, u, by rw [upd_ne z]; exact h2⟩
            · obtain ⟨h1, h2⟩ := (((e2.trans e3).trans e4).trans e5) a o n h
              exact ⟨by rw [upd_ne (nD h)]; exact h1, h2⟩
            · exact ((rl.mono ((e3.trans e4).trans e5)).append (RpL.cons r5 RpL.nil)).conv c
          | false => exact ⟨S4, acc, xs, W4, (e2.trans e3).trans e4, h4.1, rl.mono (e3.trans e4), q4⟩
        · exact f2.elim
section
variable {X : Cx} {E : WX}
theorem jl_comp {elt tg iter : Expr} {ifs : List Expr} {scope : Scope} {own : List (Str × Nat)} {pos : Pos} {mi : MI} {g : TG} {b : BW} {mt : MT} {me : ME} (hc : X.calm = true) (hN : X.N.Nodup) (hi : JI X E tg iter mi) (ok : BlkOk X.N X.env.scope scope own) (hb : Binds1 X.K g (own.map (·.2)) b)
    (hg : ∀ (s : Shared) (H : Hp) (C : Addr) (cl : List (Str × Addr)) (fp : List Addr), PG (X.blk s H scope (compEnvC scope cl C X.env) fp) tg g)
    (ht : ∀ (s : Shared) (H : Hp) (C : Addr) (cl : List (Str × Addr)) (fp : List Addr), JTs (X.blk s H scope (compEnvC scope cl C X.env) fp) (fun _ _ _ _ => False) ifs mt)
    (he : ∀ (s : Shared) (H : Hp) (C : Addr) (cl : List (Str × Addr)) (fp : List Addr), JE (X.blk s H scope (compEnvC scope cl C X.env) fp) (fun _ _ _ _ => False) elt me)
    (hs : ∀ x, foldedSetIterable iter X.env x = pure x := by intro _; rfl) : JL X E (.ListComp elt [⟨tg, iter, ifs, 0⟩] scope pos) (mComp mi b mt me (own.map (·.2))) :=
  PE.weak (pe_lc (tt := rdT X.K (fun _ _ _ _ => False) mt) (te := rdE X.K (fun _ _ _ _ => False) me) hc hN hi ok hg ht he hs) fun _ _ _ q => comp_weak hb q
end
end
end Dn

namespace Dn
open PySem PySem.Spec PyProof.Rows L2 RZ
section
variable {X : Cx} {E : WX}
/-- a list, a tuple, a text: what for asks of it, by value -/
theorem it_list {pins : List (Addr × Obj)} {σ : L2.St} {H : Hp} {s : Shared} {R : It → Hp → Prop} {tg : Expr} {a : Addr} {xs : List V} (I : L2.Inv X pins σ H s) (hq : SqL X.K H a xs) (q : R (Itl X.K a) H) :
    wpAny (model X.prog X.w) X.A (pyIter (.ref a)) (PIE X pins σ tg R) X.xe s := by
  obtain ⟨its, _, p, _⟩ := I.list hq
  exact wpAny_pyIter_list p.isList (pi_one (tk := s.toks) I _ (turn_list a _) ⟨_, Heap.get?_push_size _ rfl, rfl, rfl⟩ q)
theorem it_tup {pins : List (Addr × Obj)} {σ : L2.St} {H : Hp} {s : Shared} {R : It → Hp → Prop} {tg : Expr} {a : Addr} {xs : List V} (I : L2.Inv X pins σ H s) (hq : SqT X.K H a xs) (q : R (Itt X.K a) H) :
    wpAny (model X.prog X.w) X.A (pyIter (.ref a)) (PIE X pins σ tg R) X.xe s := by
  obtain ⟨its, _, p, _⟩ := I.tuple hq
  exact wpAny_pyIter_tuple (show s.heap.IsTuple a its.toArray from p) (pi_one (tk := s.toks) I _ (turn_tuple a _) ⟨_, Heap.get?_push_size _ rfl, rfl, rfl⟩ q)
theorem it_str {pins : List (Addr × Obj)} {σ : L2.St} {H : Hp} {s : Shared} {R : It → Hp → Prop} {tg : Expr} {x : Str} {t : Tok} (I : L2.Inv X pins σ H s) (q : R (Its x) H) :
    wpAny (model X.prog X.w) X.A (pyIter (.str x t)) (PIE X pins σ tg R) X.xe s := by
  by_cases ha : x.cps.all (· < 128) = true
  · exact wpAny_pyIter_ascii ha (pi_one (tk := s.toks) I _ (turn_str _ x t _ (.inl rfl)) ⟨_, Heap.get?_push_size _ rfl, rfl, rfl⟩ q)
  · exact wpAny_pyIter_wide (by simpa using ha) (pi_one (tk := s.toks) I _ (turn_str _ x t _ (.inr rfl)) ⟨_, Heap.get?_push_size _ rfl, rfl, rfl⟩ q)
def signsW (x : Str) : List Dt := x.cps.toList.map fun c => .str ⟨#[c]⟩
def seqQ (Q : List Dt → (Store → Prop) → Store → Prop) (w : Dt) (S1 : Store) : Prop := match w with
  | .ref a => match S1 a with | some (.lst ws) => Q ws (fun S2 => S2 a = some (.lst ws)) S1 | _ => False
  | .lst ws => Q ws (fun _ => True) S1
  | .kl ws => Q ws (fun _ => True) S1
  | .tup ws => Q ws (fun _ => True) S1
  | .kt ws => Q ws (fun _ => True) S1
  | .str x => Q (signsW x) (fun _ => True) S1
  | _ => False
def mSeqI (m : ME) : MI := fun σ S Q Ex => m σ S (seqQ Q) Ex
theorem deliv_list {K : Frg} {P : Hid} {S1 : Store} {H1 : Hp} {a : Addr} {xs : List V} {ws : List Dt} (rl : RpL K P S1 H1 ws xs)
    (k : ∀ (P' : Hid) (S2 : Store) (H2 : Hp), (∀ b, P' b → P b ∨ H1 b = none) → Evo S1 H1 S2 H2 → SqL K H2 a xs) : Deliv K P (Itl K a) S1 H1 ws (fun _ => True) := fun P' S2 H2 i hp W2 e2 _ => by
  have h2 := k P' S2 H2 hp e2
  have rl2 := rpl_live hp e2 rl
  refine ⟨fun w ew => ?_, fun hi => ⟨xs, h2, by rw [← rl.length]; exact hi⟩⟩
  obtain ⟨x, ex, rx⟩ := rl2.get ew
  refine ⟨⟨xs, x, h2, ex⟩, fun y H' hy => ?_⟩
  obtain ⟨rfl, hy⟩ := hy
  have := (hy xs h2).symm.trans ex
  cases this
  exact ⟨W2, Evo.refl, rx⟩
theorem deliv_ref {K : Frg} {P : Hid} {S1 : Store} {H1 : Hp} {a : Addr} {ws : List Dt} : Deliv K P (Itl K a) S1 H1 ws (fun S2 => S2 a = some (.lst ws)) := fun P' S2 H2 i hp W2 e2 g => by
  obtain ⟨ys, e3, rl3⟩ := W2.sim a _ g
  refine ⟨fun w ew => ?_, fun hi => ⟨ys, SqL.of e3, by rw [← rl3.length]; exact hi⟩⟩
  obtain ⟨x, ex, rx⟩ := rl3.get ew
  refine ⟨⟨ys, x, SqL.of e3, ex⟩, fun y H' hy => ?_⟩
  obtain ⟨rfl, hy⟩ := hy
  have := (hy ys (SqL.of e3)).symm.trans ex
  cases this
  exact ⟨W2, Evo.refl, rx⟩
theorem deliv_tup {K : Frg} {P : Hid} {S1 : Store} {H1 : Hp} {a : Addr} {xs : List V} {ws : List Dt} (f : Fz P S1 H1 a (.tup xs) ∨ KT K a xs) (rl : RpL K P S1 H1 ws xs) : Deliv K P (Itt K a) S1 H1 ws (fun _ => True) := fun P' S2 H2 i hp W2 e2 _ => by
  have h2 : SqT K H2 a xs := by
    rcases f with f | f
    · exact SqT.of (e2 a _ f.2.1 f.1).1
    · exact f.sq
  have rl2 := rpl_live hp e2 rl
  refine ⟨fun w ew => ?_, fun hi => ⟨xs, h2, by rw [← rl.length]; exact hi⟩⟩
  obtain ⟨x, ex, rx⟩ := rl2.get ew
  refine ⟨⟨xs, x, h2, ex⟩, fun y H' hy => ?_⟩
  obtain ⟨rfl, hy⟩ := hy
  have := (hy xs h2).symm.trans ex
  cases this
  exact ⟨W2, Evo.refl, rx⟩
theorem deliv_str {K : Frg} {P : Hid} {S1 : Store} {H1 : Hp} {x : Str} : Deliv K P (Its x) S1 H1 (signsW x) (fun _ => True) := fun P' S2 H2 i hp W2 e2 _ => by
  refine ⟨fun w ew => ?_, fun hi => by unfold signsW at hi; rw [List.length_map, Array.length_toList] at hi; exact hi⟩
  unfold signsW at ew
  rw [List.getElem?_map, Array.getElem?_toList] at ew
  cases q : x.cps[i]? with
  | none => rw [q] at ew; cases ew
  | some c =>
    rw [q] at ew
    cases ew
    refine ⟨(Array.getElem?_eq_some_iff.mp q).1, fun y H' hy => ?_⟩
    obtain ⟨rfl, d, ed, rfl⟩ := hy
    rw [q] at ed
    cases ed
    exact ⟨W2, Evo.refl, rpStr⟩
theorem ji_seq {tg l : Expr} {m : ME} (hl : JE X E l m) : JI X E tg l (mSeqI m) := by
  refine ⟨fun pins s σv H R I q => ?_⟩
  obtain ⟨P, S, σ, Q, Ex, W, r, m, nj, nx⟩ := q
  refine thn (hl.run pins s σv H (fun v H1 => ∃ w S1, Wd X.K P S1 H1 ∧ Rp X.K P S1 H1 w v ∧ Evo S H S1 H1 ∧ seqQ Q w S1) I ⟨P, S, σ, _, Ex, W, r, m, fun v H1 w S1 W1 r1 e1 m1 => ⟨w, S1, W1, r1, e1, m1⟩, nx⟩) fun u s1 ⟨v, H1, I1, rv, w, S1, W1, r1, e1, m1⟩ => ?_
  unfold seqQ at m1
  split at m1
  · rename_i a
    rw [rp_ref] at r1
    subst r1
    cases rv
    split at m1
    · rename_i ws e
      obtain ⟨xs, e2, rl⟩ := W1.sim a _ e
      exact it_list I1 (SqL.of e2) (nj _ H1 ws _ S1 W1 e1 deliv_ref m1)
    · exact m1.elim
  · unfold Rp at r1
    obtain ⟨a, xs, rfl, f, rl⟩ := r1
    cases rv
    exact it_list I1 f.sqL (nj _ H1 _ _ S1 W1 e1 (deliv_list rl fun P' S2 H2 hp e2 => SqL.of (e2 a _ f.2.1 f.1).1) m1)
  · unfold Rp at r1
    obtain ⟨a, xs, rfl, f, rl⟩ := r1
    cases rv
    refine it_list I1 (sqK_of f) (nj _ H1 _ _ S1 W1 e1 (deliv_list rl fun P' S2 H2 hp e2 => ?_) m1)
    rcases f with ⟨o, f⟩ | f
    · exact .inl (.inr ⟨o, (e2 a _ f.2.1 f.1).1⟩)
    · exact f.sq
  · unfold Rp at r1
    obtain ⟨a, xs, rfl, f, rl⟩ := r1
    cases rv
    exact it_tup I1 (sqT_of (.inl f)) (nj _ H1 _ _ S1 W1 e1 (deliv_tup (.inl f) rl) m1)
  · unfold Rp at r1
    obtain ⟨a, xs, rfl, f, rl⟩ := r1
    cases rv
    exact it_tup I1 f.sq (nj _ H1 _ _ S1 W1 e1 (deliv_tup (.inr f) rl) m1)
  · rw [rp_str] at r1
    subst r1
    obtain ⟨t, rfl⟩ := rv
    exact it_str I1 (nj _ H1 _ _ S1 W1 e1 deliv_str m1)
  · exact m1.elim
/-- zip of two tuples, of two lists that are not changed -/
def zipW : List Dt → List Dt → List Dt
  | a :: as, b :: bs => .tup [a, b] :: zipW as bs
  | _, _ => []
theorem zipW_get : ∀ {as bs : List Dt} {i : Nat} {w : Dt}, (zipW as bs)[i]? = some w → ∃ a b, as[i]? = some a ∧ bs[i]? = some b ∧ w = .tup [a, b]
  | [], _, i, w, h => by simp [zipW] at h
  | _ :: _, [], i, w, h => by simp [zipW] at h
  | a :: as, b :: bs, 0, w, h => by
    unfold zipW at h
    simp at h
    exact ⟨a, b, rfl, rfl, h.symm⟩
  | a :: as, b :: bs, i + 1, w, h => by
    unfold zipW at h
    obtain ⟨c, d, h1, h2, h3⟩ := zipW_get (as := as) (bs := bs) (i := i) (by simpa using h)
    exact ⟨c, d, by simpa using h1, by simpa using h2, h3⟩
theorem zipW_len : ∀ (as bs : List Dt), (zipW as bs).length = min as.length bs.length
  | [], _ => by simp [zipW]
  | _ :: _, [] => by simp [zipW]
  | a :: as, b :: bs => by unfold zipW; rw [List.length_cons, List.length_cons, List.length_cons, zipW_len as bs]; omega
def mZip (ma : MA) : MI := fun σ S Q Ex => ma σ S (fun ws S1 => match ws with
  | [.tup as, .tup bs] => Q (zipW as bs) (fun _ => True) S1
  | [.lst as, .lst bs] => Q (zipW as bs) (fun _ => True) S1
  | _ => False) Ex
theorem ji_zip {e e2 : Expr} {ma : MA} {p pos tpos : Pos} {elts : List Expr} {kk : Nat} (hg : Gl X "zip") (hm : X.mg "zip" = none) (ha : JA X E [e, e2] ma)
    (hs : starEach [e, e2] X.env = (false, eval e X.env) :: starEach [e2] X.env := by rfl) (hpl : (backTo pos (starEach [e2] X.env)).any (·.1) = false := by rfl) :
    JI X E (.Tuple elts kk tpos) (.Call (.Name "zip" p) [e, e2] [] pos) (mZip ma) := PI.weak (pi_zipA hg hm ha hs hpl) fun σv H R q => by
  obtain ⟨P, S, σ, Q, Ex, W, r, m, nj, nx⟩ := q
  refine ⟨P, S, σ, _, Ex, W, r, m, fun v H1 w S1 W1 r1 e1 m1 => ?_, nx⟩
  dsimp only at m1
  split at m1
  · rename_i as bs
    obtain ⟨v1, v2, rfl, ra, rb⟩ := r1.two
    unfold Rp at ra rb
    obtain ⟨a, xs, rfl, fa, rla⟩ := ra
    obtain ⟨b, ys, rfl, fb, rlb⟩ := rb
    refine ⟨a, b, xs, ys, rfl, .inr ⟨sqT_of (.inl fa), sqT_of (.inl fb), nj _ H1 _ _ S1 W1 e1 (fun P' S2 H2 i hp W2 e2 _ => ?_) m1⟩⟩
    have liv : ∀ {c : Addr} {zs : List V}, (Fz P S1 H1 c (.tup zs) ∨ KT X.K c zs) → SqT X.K H2 c zs := fun f => f.elim (fun f => SqT.of (e2 _ _ f.2.1 f.1).1) KT.sq
    have h1 := liv (.inl fa)
    have h2 := liv (.inl fb)
    have la := rpl_live hp e2 rla
    have lb := rpl_live hp e2 rlb
    refine ⟨fun w ew => ?_, fun hi => ⟨xs, ys, h1, h2, by rw [zipW_len] at hi; rw [← rla.length, ← rlb.length]; omega⟩⟩
    obtain ⟨wa, wb, ea, eb, rfl⟩ := zipW_get ew
    obtain ⟨x, ex, rx⟩ := la.get ea
    obtain ⟨y, ey, ry⟩ := lb.get eb
    refine ⟨⟨xs, ys, x, y, h1, h2, ex, ey⟩, fun z H' hz => ?_⟩
    obtain ⟨T, x', y', rfl, nT, rfl, hx, hy⟩ := hz
    have q1 := (hx xs h1).symm.trans ex
    have q2 := (hy ys h2).symm.trans ey
    cases q1
    cases q2
    refine ⟨W2.new nT, Evo.new nT, ?_⟩
    unfold Rp
    exact ⟨T, _, rfl, Fz.new W2 nT, RpL.cons (rx.mono (Evo.new nT)) (RpL.cons (ry.mono (Evo.new nT)) RpL.nil)⟩
  · rename_i as bs
    obtain ⟨v1, v2, rfl, ra, rb⟩ := r1.two
    unfold Rp at ra rb
    obtain ⟨a, xs, rfl, fa, rla⟩ := ra
    obtain ⟨b, ys, rfl, fb, rlb⟩ := rb
    refine ⟨a, b, xs, ys, rfl, .inl ⟨fa.sqL, fb.sqL, nj _ H1 _ _ S1 W1 e1 (fun P' S2 H2 i hp W2 e2 _ => ?_) m1⟩⟩
    have h1 : SqL X.K H2 a xs := SqL.of (e2 _ _ fa.2.1 fa.1).1
    have h2 : SqL X.K H2 b ys := SqL.of (e2 _ _ fb.2.1 fb.1).1
    have la := rpl_live hp e2 rla
    have lb := rpl_live hp e2 rlb
    refine ⟨fun w ew => ?_, fun hi => ⟨xs, ys, h1, h2, by rw [zipW_len] at hi; rw [← rla.length, ← rlb.length]; omega⟩⟩
    obtain ⟨wa, wb, ea, eb, rfl⟩ := zipW_get ew
    obtain ⟨x, ex, rx⟩ := la.get ea
    obtain ⟨y, ey, ry⟩ := lb.get eb
    refine ⟨⟨xs, ys, x, y, h1, h2, ex, ey⟩, fun z H' hz => ?_⟩
    obtain ⟨T, x', y', rfl, nT, rfl, hx, hy⟩ := hz
    have q1 := (hx xs h1).symm.trans ex
    have q2 := (hy ys h2).symm.trans ey
    cases q1
    cases q2
    refine ⟨W2.new nT, Evo.new nT, ?_⟩
    unfold Rp
    exact ⟨T, _, rfl, Fz.new W2 nT, RpL.cons (rx.mono (Evo.new nT)) (RpL.cons (ry.mono (Evo.new nT)) RpL.nil)⟩
  · exact m1.elim
/-! ### the defs of the text, what is global -/
end
/-- a def of the text -/
def Dfn2 (K : Frg) (mg : Str → Option Value) (x y : Str) (st : Stmt) (ps : List Str) : Prop := ∃ (f : Addr) (fd : FuncData), mg x = some (.ref f) ∧ L2.Fun K y y st f fd ∧ Binds K fd ps []
/-- a def that keeps its promise -/
def Cal (P : Program) (w : World) (K : Frg) (mg : Str → Option Value) (base : Heap) (x : Str) (k : Nat) (ps : List Str) (n : Nat) (G : Fw) : Prop :=
  ∃ (f : Addr) (fd : FuncData), mg x = some (.ref f) ∧ PySem.W.keepIn K (.ref f) = true ∧ Binds K fd ps [] ∧ FnOk P w K mg base (L2.CX P w) k f fd ps (spOf K n G)
theorem Cal.mono {P : Program} {w : World} {K : Frg} {mg : Str → Option Value} {base : Heap} {x : Str} {j k : Nat} {ps : List Str} {n : Nat} {G : Fw} (C : Cal P w K mg base x j ps n G) (h : j ≤ k) : Cal P w K mg base x k ps n G :=
  let ⟨f, fd, a, b, c, d⟩ := C; ⟨f, fd, a, b, c, d.mono h⟩
theorem Cal.imp {P : Program} {w : World} {K : Frg} {mg : Str → Option Value} {base : Heap} {x : Str} {k : Nat} {ps : List Str} {n : Nat} {G G' : Fw} (C : Cal P w K mg base x k ps n G) (h : ∀ ws S Q Ex, ws.length = n → G' ws S Q Ex → G ws S Q Ex) : Cal P w K mg base x k ps n G' :=
  let ⟨f, fd, a, b, c, d⟩ := C; ⟨f, fd, a, b, c, FnOk.impW d h⟩
theorem cal_of {P : Program} {w : World} {K : Frg} {mg : Str → Option Value} {base : Heap} {x y : Str} {st : Stmt} {N ps : List Str} {k n : Nat} (D : Dfn2 K mg x y st ps) (Sc : FnScope N ps (defScope st)) (G : Fw) (hn : ps.length = n)
    (hbody : ∀ (f : Addr) (cdv : Value) (A : Around) (outer : List PySem.Env) (s : Shared) (H : Hp) (E : XK), Room k (A.deeper (envOfC y (defScope st) s.heap.objs.size f cdv)) →
      ∃ m, JSs (cxOf (L2.CX P w) P w K mg base N y (defScope st) f cdv A outer s H E) (fun c d _ H' => E c d H') (defBody st) m ∧
        ∀ (ws : List Dt) (S : Store) (Q : Dt → Store → Prop) (Ex : Exn → Store → Prop), ws.length = n → G ws S Q Ex →
          m ⟨fun _ S' => clo Q .non S', clo Q, fun _ _ => False, fun _ _ => False, fun x _ S' => clX Ex x S'⟩ (startW N.length ws) S) : Cal P w K mg base x (k + 1) ps n G :=
  let ⟨f, fd, a, F, b⟩ := D
  ⟨f, fd, a, F.kp, b, ok_w F Sc G hn (hbody f)⟩
section
variable {X : Cx} {E : WX}
theorem je_cal {k n : Nat} {ps : List Str} {G : Fw} {x : Str} {p pos : Pos} {e : Expr} {es : List Expr} {ma : MA} (C : Cal X.prog X.w X.K X.mg X.base x k ps n G) (hr : Room k X.A) (tk : Takes X E) (hg : Gl X x) (ha : JA X E (e :: es) ma)
    (hdb : (x == ("__debug__" : Str)) = false := by decide) (he : starEach (e :: es) X.env = (false, eval e X.env) :: starEach es X.env := by rfl)
    (hpl : (backTo pos (starEach es X.env)).any (·.1) = false := by rfl) : JE X E (.Call (.Name x p) (e :: es) [] pos) (mCall n G ma) :=
  let ⟨f, fd, a, b, c, d⟩ := C
  je_call d hr tk hg a b c ha hdb he hpl
def Gint (mg : Str → Option Value) (x : Str) (i : Int) : Prop := ∃ t, mg x = some (.int i t)
def Gstr (mg : Str → Option Value) (x i : Str) : Prop := ∃ t, mg x = some (.str i t)
theorem je_gi {x : Str} {i : Int} {pos : Pos} (hg : Gl X x) (hm : Gint X.mg x i) (hd : (x == ("__debug__" : Str)) = false := by decide) : JE X E (.Name x pos) (mC (.int i)) := let ⟨t, h⟩ := hm; je_gint hg h hd
theorem je_gs {x i : Str} {pos : Pos} (hg : Gl X x) (hm : Gstr X.mg x i) (hd : (x == ("__debug__" : Str)) = false := by decide) : JE X E (.Name x pos) (mC (.str i)) := let ⟨t, h⟩ := hm; je_gstr hg h hd
theorem takes_def {P : Program} {w : World} {K : Frg} {mg : Str → Option Value} {base : Heap} {N : List Str} {qual : Str} {scope : Scope} {f : Addr} {cd : Value} {A : Around} {outer : List PySem.Env} {s : Shared} {H : Hp} {E : XK} :
    Takes (cxOf (L2.CX P w) P w K mg base N qual scope f cd A outer s H E) (fun c d _ H' => E c d H') := takes_of rfl rfl rfl rfl
theorem passes_def {P : Program} {w : World} {K : Frg} {mg : Str → Option Value} {base : Heap} {N : List Str} {qual : Str} {scope : Scope} {f : Addr} {cd : Value} {A : Around} {outer : List PySem.Env} {s : Shared} {H : Hp} {E : XK} :
    PassesOwn (model P w) (cxOf (L2.CX P w) P w K mg base N qual scope f cd A outer s H E).A (cxOf (L2.CX P w) P w K mg base N qual scope f cd A outer s H E).env (cxOf (L2.CX P w) P w K mg base N qual scope f cd A outer s H E).xe := by
  exact passes_of (X := cxOf (L2.CX P w) P w K mg base N qual scope f cd A outer s H E) rfl
end
/-- def __init__(self, f): self.f = f -/
theorem ok_ini1 {P : Program} {w : World} {K : Frg} {mg : Str → Option Value} {base : Heap} {qual f : Str} {st : Stmt} {fI C : Addr} {fd : FuncData} {p1 p2 p3 p4 : Pos} (F : L2.Fun K "__init__" qual st fI fd) (Sc : FnScope ["self", f] ["self", f] (defScope st))
    (hB : defBody st = [.Assign [.Attribute (.Name "self" p1) f p2] (.Name f p3) p4]) (v1 : Vis (defScope st) "self") (v2 : Vis (defScope st) f) (h1 : (f == ("__debug__" : Str)) = false) (h2 : (f == ("__classdict__" : Str)) = false)
    (T : OexC K C) (no : PySem.W.findIn K (.ref C) f = some none) :
    FnOk P w K mg base (L2.CX P w) 1 fI fd ["self", f] (fun vs H Q _ => ∃ a y, vs = [.ref a, y] ∧ H a = some (exo a C none) ∧ ∀ d, H d = none → d ≠ a → Q .non (upd (upd H d (exd d [(f, y)])) a (exo a C (some d)))) := by
  refine F.okX Sc (fun vs H Q E h => by obtain ⟨a, y, rfl, _⟩ := h; rfl) fun cdv A outer s H vs Q E hr h => ?_
  obtain ⟨a, y, rfl, e, k⟩ := h
  refine ⟨_, by rw [hB]; exact pss_one (ps_ost (pe_var (i := 0) rfl v1) (pe_var (i := 1) rfl v2 h1 h2)), ?_⟩
  exact ⟨y, rfl, .ref a, rfl, a, C, rfl, T, no, .inl ⟨e, fun dx n ne => k dx n ne⟩⟩
-- what the top has written
section
variable {K : Frg} {h : Heap} {mg : Str → Option Value}
theorem dfn_mk {x y : Str} {st : Stmt} {ps : List Str} {f : Addr} {oc : Value} {od an : Option Addr} {osl : Array (Option Value)} {kV doc pm cdv ct : Value} (X : K.In h) (G : h.Ns mainGlobals mg) (a : PySem.W.nsIn K mainGlobals x = some (some (.ref f)))
    (l : K.lookup f = some ⟨oc, od, .func (PySem.W.fnOf y y (defArgs st) (defBody st) (defScope st) .none kV doc pm an cdv ct), osl⟩) (c : PySem.W.codeIn K cdv y = true) (k : PySem.W.keepIn K (.ref f) = true)
    (hb : ∀ (kV doc pm : Value) (an : Option Addr) (cdv ct : Value) (us : List Value), us.length = ps.length → bindArgs (PySem.W.fnOf y y (defArgs st) (defBody st) (defScope st) .none kV doc pm an cdv ct) ⟨us, []⟩ = pure (ps.zip us)) : Dfn2 K mg x y st ps :=
  ⟨f, _, PySem.W.mg_of X G a, fun_mk l c k, (fun_mk (st := st) l c k).binds hb⟩
theorem gint_mk {x : Str} {i : Int} {t : Tok} (X : K.In h) (G : h.Ns mainGlobals mg) (a : PySem.W.nsIn K mainGlobals x = some (some (.int i t))) : Gint mg x i := ⟨t, PySem.W.mg_of X G a⟩
theorem gstr_mk {x i : Str} {t : Tok} (X : K.In h) (G : h.Ns mainGlobals mg) (a : PySem.W.nsIn K mainGlobals x = some (some (.str i t))) : Gstr mg x i := ⟨t, PySem.W.mg_of X G a⟩
theorem gint_loose {h' : Heap} {x : Str} {i : Int} (e : ∃ v, mg x = some v ∧ PySem.W.ReadsLit h' v (.int i) []) : Gint mg x i := by
  obtain ⟨v, a, b⟩ := e
  cases b
  exact ⟨_, a⟩
theorem gstr_loose {h' : Heap} {x i : Str} (e : ∃ v, mg x = some v ∧ PySem.W.ReadsLit h' v (.str i) []) : Gstr mg x i := by
  obtain ⟨v, a, b⟩ := e
  cases b
  exact ⟨_, a⟩
theorem exc1_mk {P : Program} {w : World} {base : Heap} {x f qual nm q : Str} {st : Stmt} {C fI N : Addr} {bs bm : List Value} {sn : List Str} {sub : List Value} {ab : Bool} {col : Option Bool} {dd : Option Addr} {k0 k1 k2 k3 k5 : Option Value}
    {oc kV dc pm cd ct : Value} {od an : Option Addr} {sl : Array (Option Value)} {p1 p2 p3 p4 : Pos} (X : K.In h) (G : h.Ns mainGlobals mg) (aE : PySem.W.nsIn K mainGlobals x = some (some (.ref C)))
    (xL : K.lookup C = some (excClassObj nm q C N bs bm true sn sub ab col dd k0 k1 k2 k3 k5 "ValueError.__new__")) (bR : PySem.HandSPX.refsVE bm = true) (sa : PySem.W.findIn K (.ref C) "__setattr__" = some (some (.builtin "object.__setattr__")))
    (ga : PySem.W.findIn K (.ref C) "__getattribute__" = some (some (.builtin "BaseException.__getattribute__"))) (gg : PySem.W.findIn K (.ref C) "__getattr__" = some none) (no : PySem.W.findIn K (.ref C) f = some none)
    (iC : PySem.W.findIn K (.ref C) "__init__" = some (some (.ref fI))) (tI : PySem.W.typeIn K (.ref fI) = some (.type "function"))
    (l : K.lookup fI = some ⟨oc, od, .func (PySem.W.fnOf "__init__" qual (defArgs st) (defBody st) (defScope st) .none kV dc pm an cd ct), sl⟩) (c : PySem.W.codeIn K cd qual = true) (kf : PySem.W.keepIn K (.ref fI) = true)
    (kC : PySem.W.keepIn K (.ref C) = true) (eC : PySem.W.subIn K (.ref C) (.type "BaseException") = some true) (tC : PySem.W.typeIn K (.ref C) = some (.type "type")) (hC : PySem.W.hasDictIn K C = true)
    (Sc : FnScope ["self", f] ["self", f] (defScope st)) (hB : defBody st = [.Assign [.Attribute (.Name "self" p1) f p2] (.Name f p3) p4]) (v1 : Vis (defScope st) "self") (v2 : Vis (defScope st) f) (h1 : (f == ("__debug__" : Str)) = false) (h2 : (f == ("__classdict__" : Str)) = false)
    (hb : ∀ (kV doc pm : Value) (an : Option Addr) (cdv ct : Value) (us : List Value), us.length = (["self", f] : List Str).length → bindArgs (PySem.W.fnOf "__init__" qual (defArgs st) (defBody st) (defScope st) .none kV doc pm an cdv ct) ⟨us, []⟩ = pure ((["self", f] : List Str).zip us)) : Exc1 P w K mg base x f C :=
  have oC : OexC K C := ⟨⟨nm, q, N, bs, bm, sn, sub, ab, col, dd, k0, k1, k2, k3, k5, xL, bR⟩, sa, eC, tC, kC⟩
  ⟨PySem.W.mg_of X G aE, oC, ⟨ga, gg, eC, hC⟩, no, fI, _, iC, tI, (fun_mk (st := st) l c kf).binds hb, ok_ini1 (fun_mk (st := st) l c kf) Sc hB v1 v2 h1 h2 oC no⟩
theorem exc0_mk {x : Str} {C : Addr} (X : K.In h) (G : h.Ns mainGlobals mg) (a : PySem.W.nsIn K mainGlobals x = some (some (.ref C))) (xC : PySem.W.excIn K C [.type "ValueError", .type "Exception", .type "BaseException", .type "object"] "ValueError.__new__" = true)
    (kC : PySem.W.keepIn K (.ref C) = true) (bC : PySem.W.subIn K (.ref C) (.type "BaseException") = some true) (tC : PySem.W.typeIn K (.ref C) = some (.type "type")) : Exc0 K mg x C := ⟨PySem.W.mg_of X G a, xC, kC, bC, tC⟩
end
/-- the law: a script of at most n numbers, True comes out -/
def lawG (n : Nat) : Fw := fun ws S Q _ => ∃ ns : List Int, ws = [.kl (ns.map Dt.int)] ∧ ns.length ≤ n ∧ S = (fun _ => none) ∧ ∀ S', Q (.bl true) S'
theorem law_sp {K : Frg} {n : Nat} {H : Hp} {a : Addr} {ns : List Int} (hl : ns.length ≤ n) (hO : Only H) (hS : SqL K H a (ns.map V.int)) : spOf K 1 (lawG n) [.ref a] H (fun v _ => v = .bl true) (fun _ _ _ => False) := by
  refine ⟨rfl, fun _ => False, fun _ => none, [.kl (ns.map Dt.int)], fun w _ => w = .bl true, fun _ _ => False, ⟨fun a o e => (by cases e), fun a h => h.elim⟩, RpL.cons ?_ RpL.nil, ⟨ns, rfl, hl, rfl, fun _ => rfl⟩, fun v H' w S' W r e q => ?_, fun _ _ _ _ _ _ _ _ q => q⟩
  · unfold Rp
    refine ⟨a, ns.map V.int, rfl, ?_, RpL.ofInt⟩
    rcases hS with (h | ⟨o, h⟩) | h
    · exfalso
      rcases hO a with q | ⟨o, u, q⟩
      · rw [q] at h; cases h
      · rw [q] at h; cases h
    · exact .inl ⟨o, h, rfl, fun h => h⟩
    · exact .inr (.inr h)
  · subst q
    rw [rp_bl] at r
    exact r
theorem walk_ofX {l : PySem.W.OpenLaw} {n k : Nat} {q : Program} {loose : List Str} {XP : (Str → Option Value) → Heap → Prop} {YP : World → Heap → Prop} {d : DefRec} {K : Params → Frg} {x : Str}
    (hn : l.most = some n) (hn2 : n ≤ sizeLine) (hdf : d.params.defaults = []) (hr : Room k callerA) (hY : ∀ (w : World) (h : Heap), YP w h → (K w.params).In h)
    (F : ∀ (w : World) (mg : Str → Option Value) (fa : Addr) (h : Heap), (K w.params).In h → h.Ns mainGlobals mg → XP mg h → mg d.name = some (.ref fa) →
      ∃ fd : FuncData, (∀ (s : Shared) (u : Value), BindsTo s fd ⟨[u], []⟩ [(x, u)]) ∧ ∀ base : Heap, (K w.params).In base → base.Ns mainGlobals mg → FnOk l.prog w (K w.params) mg base (L2.CX l.prog w) k fa fd [x] (spOf (K w.params) 1 (lawG n))) :
    PySem.W.WalkO q loose XP YP l.row.toRowW d [] (fun f vs => PySem.call f vs) := by
  refine Att.attach_call hn hdf fun w s0 s1 mg mb fa o pm cd doc a vs ns G Y ho hd hcd hmg hobj hints hlen hg => ?_
  have KX := hY w _ Y
  obtain ⟨fd, hb, hF⟩ := F w mg fa _ KX G.T.g G.X hmg
  exact law_call KX G.T.g G.T.b G.T.builtins G.T.nolimit hg hobj hints (Nat.le_trans hlen hn2) hr hF hb (fun H hO hS => law_sp hlen hO hS) fun H e s' h => cx_none h
end Dn

namespace Dn
open PySem PySem.Spec PyProof.Rows L2
/-! ### which built-in type is which -/
theorem kb_NoneType_int : kitB "NoneType" "int" = some false := by decide +kernel
theorem kb_NoneType_bool : kitB "NoneType" "bool" = some false := by decide +kernel
theorem kb_NoneType_str : kitB "NoneType" "str" = some false := by decide +kernel
theorem kb_NoneType_tuple : kitB "NoneType" "tuple" = some false := by decide +kernel
theorem kb_NoneType_list : kitB "NoneType" "list" = some false := by decide +kernel
theorem kb_NoneType_dict : kitB "NoneType" "dict" = some false := by decide +kernel
theorem kb_bool_int : kitB "bool" "int" = some true := by decide +kernel
theorem kb_bool_bool : kitB "bool" "bool" = some true := by decide +kernel
theorem kb_bool_str : kitB "bool" "str" = some false := by decide +kernel
theorem kb_bool_tuple : kitB "bool" "tuple" = some false := by decide +kernel
theorem kb_bool_list : kitB "bool" "list" = some false := by decide +kernel
theorem kb_bool_dict : kitB "bool" "dict" = some false := by decide +kernel
theorem kb_int_int : kitB "int" "int" = some true := by decide +kernel
theorem kb_int_bool : kitB "int" "bool" = some false := by decide +kernel
theorem kb_int_str : kitB "int" "str" = some false := by decide +kernel
theorem kb_int_tuple : kitB "int" "tuple" = some false := by decide +kernel
theorem kb_int_list : kitB "int" "list" = some false := by decide +kernel
theorem kb_int_dict : kitB "int" "dict" = some false := by decide +kernel
theorem kb_str_int : kitB "str" "int" = some false := by decide +kernel
theorem kb_str_bool : kitB "str" "bool" = some false := by decide +kernel
theorem kb_str_str : kitB "str" "str" = some true := by decide +kernel
theorem kb_str_tuple : kitB "str" "tuple" = some false := by decide +kernel
theorem kb_str_list : kitB "str" "list" = some false := by decide +kernel
theorem kb_str_dict : kitB "str" "dict" = some false := by decide +kernel
theorem kb_tuple_int : kitB "tuple" "int" = some false := by decide +kernel
theorem kb_tuple_bool : kitB "tuple" "bool" = some false := by decide +kernel
theorem kb_tuple_str : kitB "tuple" "str" = some false := by decide +kernel
theorem kb_tuple_tuple : kitB "tuple" "tuple" = some true := by decide +kernel
theorem kb_tuple_list : kitB "tuple" "list" = some false := by decide +kernel
theorem kb_tuple_dict : kitB "tuple" "dict" = some false := by decide +kernel
theorem kb_list_int : kitB "list" "int" = some false := by decide +kernel
theorem kb_list_bool : kitB "list" "bool" = some false := by decide +kernel
theorem kb_list_str : kitB "list" "str" = some false := by decide +kernel
theorem kb_list_tuple : kitB "list" "tuple" = some false := by decide +kernel
theorem kb_list_list : kitB "list" "list" = some true := by decide +kernel
theorem kb_list_dict : kitB "list" "dict" = some false := by decide +kernel
theorem kb_dict_int : kitB "dict" "int" = some false := by decide +kernel
theorem kb_dict_bool : kitB "dict" "bool" = some false := by decide +kernel
theorem kb_dict_str : kitB "dict" "str" = some false := by decide +kernel
theorem kb_dict_tuple : kitB "dict" "tuple" = some false := by decide +kernel
theorem kb_dict_list : kitB "dict" "list" = some false := by decide +kernel
theorem kb_dict_dict : kitB "dict" "dict" = some true := by decide +kernel
/-! ### what a thing is -/
def isI : Dt → Bool
  | .int _ => true
  | _ => false
def isB : Dt → Bool
  | .bl _ => true
  | _ => false
def isS : Dt → Bool
  | .str _ => true
  | _ => false
def isT : Dt → Bool
  | .tup _ => true
  | .kt _ => true
  | _ => false
def isL (S : Store) : Dt → Bool
  | .lst _ => true
  | .kl _ => true
  | .ref a => match S a with | some (.lst _) => true | _ => false
  | _ => false
/-- a thing whose type is a built-in one -/
def kn (S : Store) (w : Dt) : Prop := ∃ t, tyN S w = some t
theorem kI {S : Store} {w : Dt} {t : String} (h : tyN S w = some t) : kitB t "int" = some (isI w || isB w) := by
  cases w with
  | ref a =>
    unfold tyN at h
    dsimp only at h
    cases e : S a with
    | none => rw [e] at h; cases h
    | some o =>
      rw [e] at h
      cases o with
      | lst _ => cases h; simp only [kb_list_int, isI, isB, isS, isT, isL, e, Bool.or_self]
      | dK _ _ => cases h; simp only [kb_dict_int, isI, isB, isS, isT, isL, e, Bool.or_self]
      | dT _ _ => cases h; simp only [kb_dict_int, isI, isB, isS, isT, isL, e, Bool.or_self]
      | ins _ _ _ => cases h
  | _ => first
    | (cases h; done)
    | (cases h; simp only [kb_NoneType_int, kb_bool_int, kb_int_int, kb_str_int, kb_tuple_int, kb_list_int, kb_dict_int, isI, isB, isS, isT, isL, Bool.or_self, Bool.or_true, Bool.or_false, Bool.true_or, Bool.false_or])
theorem kB {S : Store} {w : Dt} {t : String} (h : tyN S w = some t) : kitB t "bool" = some (isB w) := by
  cases w with
  | ref a =>
    unfold tyN at h
    dsimp only at h
    cases e : S a with
    | none => rw [e] at h; cases h
    | some o =>
      rw [e] at h
      cases o with
      | lst _ => cases h; simp only [kb_list_bool, isI, isB, isS, isT, isL, e, Bool.or_self]
      | dK _ _ => cases h; simp only [kb_dict_bool, isI, isB, isS, isT, isL, e, Bool.or_self]
      | dT _ _ => cases h; simp only [kb_dict_bool, isI, isB, isS, isT, isL, e, Bool.or_self]
      | ins _ _ _ => cases h
  | _ => first
    | (cases h; done)
    | (cases h; simp only [kb_NoneType_bool, kb_bool_bool, kb_int_bool, kb_str_bool, kb_tuple_bool, kb_list_bool, kb_dict_bool, isI, isB, isS, isT, isL, Bool.or_self, Bool.or_true, Bool.or_false, Bool.true_or, Bool.false_or])
theorem kS {S : Store} {w : Dt} {t : String} (h : tyN S w = some t) : kitB t "str" = some (isS w) := by
  cases w with
  | ref a =>
    unfold tyN at h
    dsimp only at h
    cases e : S a with
    | none => rw [e] at h; cases h
    | some o =>
      rw [e] at h
      cases o with
      | lst _ => cases h; simp only [kb_list_str, isI, isB, isS, isT, isL, e, Bool.or_self]
      | dK _ _ => cases h; simp only [kb_dict_str, isI, isB, isS, isT, isL, e, Bool.or_self]
      | dT _ _ => cases h; simp only [kb_dict_str, isI, isB, isS, isT, isL, e, Bool.or_self]
      | ins _ _ _ => cases h
  | _ => first
    | (cases h; done)
    | (cases h; simp only [kb_NoneType_str, kb_bool_str, kb_int_str, kb_str_str, kb_tuple_str, kb_list_str, kb_dict_str, isI, isB, isS, isT, isL, Bool.or_self, Bool.or_true, Bool.or_false, Bool.true_or, Bool.false_or])
theorem kT {S : Store} {w : Dt} {t : String} (h : tyN S w = some t) : kitB t "tuple" = some (isT w) := by
  cases w with
  | ref a =>
    unfold tyN at h
    dsimp only at h
    cases e : S a with
    | none => rw [e] at h; cases h
    | some o =>
      rw [e] at h
      cases o with
      | lst _ => cases h; simp only [kb_list_tuple, isI, isB, isS, isT, isL, e, Bool.or_self]
      | dK _ _ => cases h; simp only [kb_dict_tuple, isI, isB, isS, isT, isL, e, Bool.or_self]
      | dT _ _ => cases h; simp only [kb_dict_tuple, isI, isB, isS, isT, isL, e, Bool.or_self]
      | ins _ _ _ => cases h
  | _ => first
    | (cases h; done)
    | (cases h; simp only [kb_NoneType_tuple, kb_bool_tuple, kb_int_tuple, kb_str_tuple, kb_tuple_tuple, kb_list_tuple, kb_dict_tuple, isI, isB, isS, isT, isL, Bool.or_self, Bool.or_true, Bool.or_false, Bool.true_or, Bool.false_or])
theorem kL {S : Store} {w : Dt} {t : String} (h : tyN S w = some t) : kitB t "list" = some (isL S w) := by
  cases w with
  | ref a =>
    unfold tyN at h
    dsimp only at h
    cases e : S a with
    | none => rw [e] at h; cases h
    | some o =>
      rw [e] at h
      cases o with
      | lst _ => cases h; simp only [kb_list_list, isI, isB, isS, isT, isL, e, Bool.or_self]
      | dK _ _ => cases h; simp only [kb_dict_list, isI, isB, isS, isT, isL, e, Bool.or_self]
      | dT _ _ => cases h; simp only [kb_dict_list, isI, isB, isS, isT, isL, e, Bool.or_self]
      | ins _ _ _ => cases h
  | _ => first
    | (cases h; done)
    | (cases h; simp only [kb_NoneType_list, kb_bool_list, kb_int_list, kb_str_list, kb_tuple_list, kb_list_list, kb_dict_list, isI, isB, isS, isT, isL, Bool.or_self, Bool.or_true, Bool.or_false, Bool.true_or, Bool.false_or])
section
variable {X : Cx} {E : WX}
theorem chain_weak {ma mb mc : ME} {g g' : Op2} {K : Frg} {σv : L2.St} {H : Hp} {Qv : VK} (q : rdE K E (mChain g g' ma mb mc) σv H Qv) : tChain (rd2 K g) (rd2 K g') (rdE K E ma) (rdE K E mb) (rdE K E mc) σv H Qv := by
  obtain ⟨P, S, σ, Q, Ex, W, r, m, nq, nx⟩ := q
  refine ⟨P, S, σ, _, Ex, W, r, m, fun v H1 w S1 W1 r1 e1 m1 => ?_, nx⟩
  refine ⟨P, S1, σ, _, Ex, W1, r.mono e1, m1, fun v2 H2 w2 S2 W2 r2 e2 m2 => ?_, nx.after e1⟩
  refine ⟨P, S2, w, w2, _, W2, r1.mono e2, r2, m2, fun v3 H3 w3 S3 W3 r3 e3 m3 => ?_⟩
  split at m3
  · rw [rp_bl] at r3
    refine ⟨true, r3, ?_⟩
    refine ⟨P, S3, σ, _, Ex, W3, r.mono ((e1.trans e2).trans e3), m3, fun v4 H4 w4 S4 W4 r4 e4 m4 => ?_, nx.after ((e1.trans e2).trans e3)⟩
    exact ⟨P, S4, w2, w4, Q, W4, r2.mono (e3.trans e4), r4, m4, nq.after (((e1.trans e2).trans e3).trans e4)⟩
  · rw [rp_bl] at r3
    exact ⟨false, r3, nq (.bl false) H3 (.bl false) S3 W3 rpBl ((e1.trans e2).trans e3) m3⟩
  · exact m3.elim
theorem je_chain {a b c : Expr} {ma mb mc : ME} {pos : Pos} {op op' : CmpOp} {g g' : Op2} (ho : OpR X (compareOp op) (rd2 X.K g)) (ho' : OpR X (compareOp op') (rd2 X.K g')) (ha : JE X E a ma) (hb : JE X E b mb) (hc : JE X E c mc)
    (h1 : lastMarks [op, op'] [b, c] = false := by with_unfolding_all rfl) : JE X E (.Compare a [op, op'] [b, c] pos) (mChain g g' ma mb mc) := PE.weak (pe_chain ho ho' ha hb hc h1) fun σv H Qv q => chain_weak q
/-- {} -/
def mDict0 : ME := fun _ S Q _ => Q (.dK [] []) S
theorem je_dict0 {pos : Pos} : JE X E (.Dict [] [] pos) mDict0 := PE.weak pe_dnewK fun σv H Qv q => by
  obtain ⟨P, S, σ, Q, Ex, W, r, m, nq, nx⟩ := q
  intro p hp
  refine nq _ _ (.dK [] []) S (W.new hp) ?_ (Evo.new hp) m
  unfold Rp
  exact ⟨p, [], rfl, Fz.new W hp, rfl, RpL.nil⟩
end
theorem w1 {ws : List Dt} (h : ws.length = 1) : ∃ a, ws = [a] := by
  cases ws with
  | nil => cases h
  | cons a r => cases r with
    | nil => exact ⟨a, rfl⟩
    | cons b r => simp at h
theorem w2 {ws : List Dt} (h : ws.length = 2) : ∃ a b, ws = [a, b] := by
  cases ws with
  | nil => cases h
  | cons a r =>
    obtain ⟨b, rfl⟩ := w1 (ws := r) (by simpa using h)
    exact ⟨a, b, rfl⟩
theorem w3 {ws : List Dt} (h : ws.length = 3) : ∃ a b c, ws = [a, b, c] := by
  cases ws with
  | nil => cases h
  | cons a r =>
    obtain ⟨b, c, rfl⟩ := w2 (ws := r) (by simpa using h)
    exact ⟨a, b, c, rfl⟩
theorem w4 {ws : List Dt} (h : ws.length = 4) : ∃ a b c d, ws = [a, b, c, d] := by
  cases ws with
  | nil => cases h
  | cons a r =>
    obtain ⟨b, c, d, rfl⟩ := w3 (ws := r) (by simpa using h)
    exact ⟨a, b, c, d, rfl⟩
theorem st_len {n : Nat} {ws : List Dt} : startW n ws = ws.map some ++ List.replicate (n - ws.length) none := rfl
end Dn

namespace Dn
open PySem PySem.Spec PyProof.Rows L2
/-! ### loops by invariants -/
theorem forW_at {g : MG} {body : MS} {gd : Store → Prop} {D : EndsW} {all : List Dt} (I : Nat → Env → Store → Prop)
    (hs : ∀ (i : Nat) (w : Dt) (σ : Env) (S : Store) (N : Env → Store → Prop), all[i]? = some w → I i σ S → (∀ σ' S', I (i + 1) σ' S' → N σ' S') → gd S ∧ g w σ S (fun σ1 S1 => body { D with nx := N, ct := N, bk := D.nx } σ1 S1) D.ex)
    (he : ∀ σ S, I all.length σ S → gd S ∧ D.nx σ S) : ∀ (ws : List Dt) (i : Nat) (σ : Env) (S : Store), ws = all.drop i → i ≤ all.length → I i σ S → forW g body gd D ws σ S
  | [], i, σ, S, e, hi, h => by
    unfold forW
    have : all.length ≤ i := by
      have := congrArg List.length e
      simp at this
      omega
    have ei : i = all.length := by omega
    rw [ei] at h
    exact he σ S h
  | w :: ws, i, σ, S, e, hi, h => by
    unfold forW
    have ew : all[i]? = some w := by
      have := congrArg List.head? e
      rw [List.head?_cons, List.head?_drop] at this
      exact this.symm
    have hl : i < all.length := (List.getElem?_eq_some_iff.mp ew).1
    have e2 : ws = all.drop (i + 1) := by
      have := congrArg List.tail e
      rw [List.tail_cons, List.tail_drop] at this
      exact this
    exact hs i w σ S _ ew h fun σ' S' h' => forW_at I hs he ws (i + 1) σ' S' e2 hl h'
theorem forW_rule {g : MG} {body : MS} {gd : Store → Prop} {D : EndsW} {ws : List Dt} {σ : Env} {S : Store} (I : Nat → Env → Store → Prop) (h0 : I 0 σ S)
    (hs : ∀ (i : Nat) (w : Dt) (σ : Env) (S : Store) (N : Env → Store → Prop), ws[i]? = some w → I i σ S → (∀ σ' S', I (i + 1) σ' S' → N σ' S') → gd S ∧ g w σ S (fun σ1 S1 => body { D with nx := N, ct := N, bk := D.nx } σ1 S1) D.ex)
    (he : ∀ σ S, I ws.length σ S → gd S ∧ D.nx σ S) : loopW g body gd D ws σ S := by
  rw [loopW_eq]
  exact forW_at I hs he ws 0 σ S rfl (Nat.zero_le _) h0
theorem whileN_rule {mt : MT} {body : MS} {D : EndsW} (I : Nat → Env → Store → Prop)
    (hs : ∀ (m : Nat) (σ : Env) (S : Store) (N : Env → Store → Prop), I m σ S → (∀ m' σ' S', m' < m → I m' σ' S' → N σ' S') → mt σ S (fun b S1 => br b (body { D with nx := N, ct := N, bk := D.nx } σ S1) (D.nx σ S1)) (fun x S' => D.ex x σ S')) :
    ∀ (n m : Nat) (σ : Env) (S : Store), m < n → I m σ S → whileN mt body D n σ S
  | 0, m, σ, S, h, _ => by omega
  | n + 1, m, σ, S, h, hi => by
    unfold whileN
    exact hs m σ S _ hi fun m' σ' S' h' hi' => whileN_rule I hs n m' σ' S' (by omega) hi'
theorem mWhile_rule {mt : MT} {body : MS} {D : EndsW} {σ : Env} {S : Store} (I : Nat → Env → Store → Prop) (m : Nat) (h0 : I m σ S)
    (hs : ∀ (m : Nat) (σ : Env) (S : Store) (N : Env → Store → Prop), I m σ S → (∀ m' σ' S', m' < m → I m' σ' S' → N σ' S') → mt σ S (fun b S1 => br b (body { D with nx := N, ct := N, bk := D.nx } σ S1) (D.nx σ S1)) (fun x S' => D.ex x σ S')) : mWhile mt body D σ S :=
  ⟨m + 1, whileN_rule I hs (m + 1) m σ S (Nat.lt_succ_self m) h0⟩
/-! ### tests that are comparisons; items at written places -/
section
variable {X : Cx} {E : WX}
def mTst (m : ME) : MT := fun σ S Q Ex => m σ S (fun w S1 => match w with | .bl b => Q b S1 | _ => False) Ex
theorem jt_cmp {a b : Expr} {ma mb : ME} {pos : Pos} {op : CmpOp} {g : Op2} (ho : OpR X (compareOp op) (rd2 X.K g)) (ha : JE X E a ma) (hb : JE X E b mb) (hm : behindInMarks op b = false) : JT X E (.Compare a [op] [b] pos) (mTst (mOp g ma mb)) := PT.weak (pt_cmpR ho ha hb hm) fun σv H Qv q => by
  have q' : rdE X.K E (mOp g ma mb) σv H (fun x H' => ∃ k, x = .bl k ∧ Qv k H') := by
    obtain ⟨P, S, σ, Q, Ex, W, r, m, nq, nx⟩ := q
    refine ⟨P, S, σ, _, Ex, W, r, m, fun v H1 w S1 W1 r1 e1 m1 => ?_, nx⟩
    dsimp only at m1
    split at m1
    · rw [rp_bl] at r1
      exact ⟨_, r1, nq _ H1 S1 W1 e1 m1⟩
    · exact m1.elim
  exact op_weak q'
theorem jt_chain {a b c : Expr} {ma mb mc : ME} {pos : Pos} {op op' : CmpOp} {g g' : Op2} (ho : OpR X (compareOp op) (rd2 X.K g)) (ho' : OpR X (compareOp op') (rd2 X.K g')) (ha : JE X E a ma) (hb : JE X E b mb) (hc : JE X E c mc)
    (h1 : lastMarks [op, op'] [b, c] = false := by with_unfolding_all rfl) : JT X E (.Compare a [op, op'] [b, c] pos) (mTst (mChain g g' ma mb mc)) := PT.weak (pt_chain ho ho' ha hb hc h1) fun σv H Qv q => by
  have q' : rdE X.K E (mChain g g' ma mb mc) σv H (fun x H' => ∃ k, x = .bl k ∧ Qv k H') := by
    obtain ⟨P, S, σ, Q, Ex, W, r, m, nq, nx⟩ := q
    refine ⟨P, S, σ, _, Ex, W, r, m, fun v H1 w S1 W1 r1 e1 m1 => ?_, nx⟩
    dsimp only at m1
    split at m1
    · rw [rp_bl] at r1
      exact ⟨_, r1, nq _ H1 S1 W1 e1 m1⟩
    · exact m1.elim
  exact chain_weak q'
end
theorem at_0 {α : Type} {a : α} {r : List α} : atI (a :: r) 0 = some a := by
  unfold atI
  rw [show ixN (a :: r).length 0 = some 0 from by unfold ixN; rw [if_pos (by decide), if_pos (by simp only [List.length_cons]; omega)]; rfl]
  rfl
theorem at_1 {α : Type} {a b : α} {r : List α} : atI (a :: b :: r) 1 = some b := by
  unfold atI
  rw [show ixN (a :: b :: r).length 1 = some 1 from by unfold ixN; rw [if_pos (by decide), if_pos (by simp only [List.length_cons]; omega)]; rfl]
  rfl
theorem at_2 {α : Type} {a b c : α} {r : List α} : atI (a :: b :: c :: r) 2 = some c := by
  unfold atI
  rw [show ixN (a :: b :: c :: r).length 2 = some 2 from by unfold ixN; rw [if_pos (by decide), if_pos (by simp only [List.length_cons]; omega)]; rfl]
  rfl
theorem at_3 {α : Type} {a b c d : α} {r : List α} : atI (a :: b :: c :: d :: r) 3 = some d := by
  unfold atI
  rw [show ixN (a :: b :: c :: d :: r).length 3 = some 3 from by unfold ixN; rw [if_pos (by decide), if_pos (by simp only [List.length_cons]; omega)]; rfl]
  rfl
theorem at_4 {α : Type} {a b c d e : α} {r : List α} : atI (a :: b :: c :: d :: e :: r) 4 = some e := by
  unfold atI
  rw [show ixN (a :: b :: c :: d :: e :: r).length 4 = some 4 from by unfold ixN; rw [if_pos (by decide), if_pos (by simp only [List.length_cons]; omega)]; rfl]
  rfl
theorem at_5 {α : Type} {a b c d e f : α} {r : List α} : atI (a :: b :: c :: d :: e :: f :: r) 5 = some f := by
  unfold atI
  rw [show ixN (a :: b :: c :: d :: e :: f :: r).length 5 = some 5 from by unfold ixN; rw [if_pos (by decide), if_pos (by simp only [List.length_cons]; omega)]; rfl]
  rfl
theorem at_6 {α : Type} {a b c d e f g : α} {r : List α} : atI (a :: b :: c :: d :: e :: f :: g :: r) 6 = some g := by
  unfold atI
  rw [show ixN (a :: b :: c :: d :: e :: f :: g :: r).length 6 = some 6 from by unfold ixN; rw [if_pos (by decide), if_pos (by simp only [List.length_cons]; omega)]; rfl]
  rfl
theorem at_7 {α : Type} {a b c d e f g h : α} {r : List α} : atI (a :: b :: c :: d :: e :: f :: g :: h :: r) 7 = some h := by
  unfold atI
  rw [show ixN (a :: b :: c :: d :: e :: f :: g :: h :: r).length 7 = some 7 from by unfold ixN; rw [if_pos (by decide), if_pos (by simp only [List.length_cons]; omega)]; rfl]
  rfl
theorem at_8 {α : Type} {a b c d e f g h i : α} {r : List α} : atI (a :: b :: c :: d :: e :: f :: g :: h :: i :: r) 8 = some i := by
  unfold atI
  rw [show ixN (a :: b :: c :: d :: e :: f :: g :: h :: i :: r).length 8 = some 8 from by unfold ixN; rw [if_pos (by decide), if_pos (by simp only [List.length_cons]; omega)]; rfl]
  rfl
theorem at_9 {α : Type} {a b c d e f g h i j : α} {r : List α} : atI (a :: b :: c :: d :: e :: f :: g :: h :: i :: j :: r) 9 = some j := by
  unfold atI
  rw [show ixN (a :: b :: c :: d :: e :: f :: g :: h :: i :: j :: r).length 9 = some 9 from by unfold ixN; rw [if_pos (by decide), if_pos (by simp only [List.length_cons]; omega)]; rfl]
  rfl
theorem ix_1_0 : ixN 1 0 = some 0 := rfl
theorem ix_2_0 : ixN 2 0 = some 0 := rfl
theorem ix_2_1 : ixN 2 1 = some 1 := rfl
theorem ix_3_0 : ixN 3 0 = some 0 := rfl
theorem ix_3_1 : ixN 3 1 = some 1 := rfl
theorem ix_3_2 : ixN 3 2 = some 2 := rfl
theorem ix_4_0 : ixN 4 0 = some 0 := rfl
theorem ix_4_1 : ixN 4 1 = some 1 := rfl
theorem ix_4_2 : ixN 4 2 = some 2 := rfl
theorem ix_4_3 : ixN 4 3 = some 3 := rfl
theorem ix_5_0 : ixN 5 0 = some 0 := rfl
theorem ix_5_1 : ixN 5 1 = some 1 := rfl
theorem ix_5_2 : ixN 5 2 = some 2 := rfl
theorem ix_5_3 : ixN 5 3 = some 3 := rfl
theorem ix_5_4 : ixN 5 4 = some 4 := rfl
theorem ix_6_0 : ixN 6 0 = some 0 := rfl
theorem ix_6_1 : ixN 6 1 = some 1 := rfl
theorem ix_6_2 : ixN 6 2 = some 2 := rfl
theorem ix_6_3 : ixN 6 3 = some 3 := rfl
theorem ix_6_4 : ixN 6 4 = some 4 := rfl
theorem ix_6_5 : ixN 6 5 = some 5 := rfl
/-- a cut behind a statement: what follows is shown once -/
def mCut (m1 m2 : MS) : MS := fun D σ S => ∃ M : Env → Store → Prop, m1 { D with nx := M } σ S ∧ ∀ σ' S', M σ' S' → m2 D σ' S'
theorem jss_cut {X : Cx} {E : WX} {st : Stmt} {rest : List Stmt} {m1 m2 : MS} (h1 : JS X E st m1) (h2 : JSs X E rest m2) : JSs X E (st :: rest) (mCut m1 m2) := PSs.weak (pss_cons h1 h2) fun σv H D q => by
  obtain ⟨P, S, σ, Dw, W, r, ⟨M, m, k⟩, d⟩ := q
  exact ⟨P, S, σ, _, W, r, m, fun σv' H' σ' S' W' r' e' q' => ⟨P, S', σ', Dw, W', r', k σ' S' q', d.after e'⟩, d.rt, d.bk, d.ct, d.ex⟩
/-- a comprehension whose element is a plain function of the item -/
theorem comp_map {b : BW} {me : ME} {σ : Env} {vs : List Nat} {Q : List Dt → Store → Prop} {S : Store} (f : Dt → Dt) : ∀ (ws acc : List Dt),
    (∀ w ∈ ws, ∃ σ1, b w (wipeW σ vs) = some σ1 ∧ ∀ k : Dt → Store → Prop, k (f w) S → me σ1 S k (fun _ _ => False)) → acc.length + ws.length ≤ sizeLine → Q (acc ++ ws.map f) S → compW b mYes me σ vs (fun _ => True) Q ws acc S
  | [], acc, _, _, q => by
    unfold compW
    rw [List.map_nil, List.append_nil] at q
    exact ⟨trivial, q⟩
  | w :: ws, acc, h, hl, q => by
    unfold compW
    refine ⟨trivial, ?_⟩
    obtain ⟨σ1, e, hm⟩ := h w List.mem_cons_self
    rw [e]
    show mYes σ1 S _ _
    unfold mYes
    rw [List.length_cons] at hl
    refine hm _ ⟨by omega, comp_map f ws (acc ++ [f w]) (fun w' h' => h w' (List.mem_cons_of_mem _ h')) (by rw [List.length_append, List.length_singleton]; omega) ?_⟩
    rw [List.append_assoc]
    exact q
/-- .. with a test -/
theorem comp_filter {b : BW} {mt : MT} {me : ME} {σ : Env} {vs : List Nat} {Q : List Dt → Store → Prop} {S : Store} (p : Dt → Bool) (f : Dt → Dt) : ∀ (ws acc : List Dt),
    (∀ w ∈ ws, ∃ σ1, b w (wipeW σ vs) = some σ1 ∧ (∀ k : Bool → Store → Prop, k (p w) S → mt σ1 S k (fun _ _ => False)) ∧ (p w = true → ∀ k : Dt → Store → Prop, k (f w) S → me σ1 S k (fun _ _ => False))) →
    acc.length + ws.length ≤ sizeLine → Q (acc ++ (ws.filter p).map f) S → compW b mt me σ vs (fun _ => True) Q ws acc S
  | [], acc, _, _, q => by
    unfold compW
    rw [List.filter_nil, List.map_nil, List.append_nil] at q
    exact ⟨trivial, q⟩
  | w :: ws, acc, h, hl, q => by
    unfold compW
    refine ⟨trivial, ?_⟩
    obtain ⟨σ1, e, ht, hm⟩ := h w List.mem_cons_self
    rw [e]
    rw [List.length_cons] at hl
    refine ht _ ?_
    by_cases hp : p w = true
    · rw [hp]
      refine hm hp _ ⟨by omega, comp_filter p f ws (acc ++ [f w]) (fun w' h' => h w' (List.mem_cons_of_mem _ h')) (by rw [List.length_append, List.length_singleton]; omega) ?_⟩
      rw [List.filter_cons_of_pos hp] at q
      rw [List.append_assoc]
      exact q
    · rw [Bool.not_eq_true] at hp
      rw [hp]
      refine comp_filter p f ws acc (fun w' h' => h w' (List.mem_cons_of_mem _ h')) (by omega) ?_
      rw [List.filter_cons_of_neg (by rw [hp]; exact Bool.false_ne_true)] at q
      exact q
/-- plain data: no class, no instance, nothing that is changed -/
def pl : Dt → Bool
  | .non | .bl _ | .int _ | .str _ => true
  | .tup ws => plL ws
  | .lst ws => plL ws
  | .dK _ ws => plL ws
  | .dT _ ws => plL ws
  | _ => false
where plL : List Dt → Bool
  | [] => true
  | w :: ws => pl w && plL ws
theorem plL_all : ∀ {ws : List Dt}, pl.plL ws = true → ∀ w ∈ ws, pl w = true
  | [], _, w, h => by cases h
  | a :: ws, e, w, h => by
    unfold pl.plL at e
    rw [Bool.and_eq_true] at e
    rcases List.mem_cons.mp h with rfl | h
    · exact e.1
    · exact plL_all e.2 w h
theorem plL_of : ∀ {ws : List Dt}, (∀ w ∈ ws, pl w = true) → pl.plL ws = true
  | [], _ => rfl
  | a :: ws, h => by
    unfold pl.plL
    rw [h a List.mem_cons_self, plL_of fun w q => h w (List.mem_cons_of_mem _ q)]
    rfl
theorem kn_pl {S : Store} {w : Dt} (h : pl w = true) : kn S w := by
  cases w <;> first | exact ⟨_, rfl⟩ | (unfold pl at h; cases h)
theorem pl_tup {ws : List Dt} (h : pl (.tup ws) = true) : ∀ w ∈ ws, pl w = true := by unfold pl at h; exact plL_all h
theorem pl_tup_of {ws : List Dt} (h : ∀ w ∈ ws, pl w = true) : pl (.tup ws) = true := by unfold pl; exact plL_of h
theorem pl_ints (bs : List Int) : pl (.tup (bs.map Dt.int)) = true := pl_tup_of fun w h => by
  obtain ⟨i, _, rfl⟩ := List.mem_map.mp h
  rfl
/-! ### what a law tells by its own comparison -/
mutual
def sameW : Dt → Dt → Bool
  | a, .non => isNon a
  | a, .bl b => isBlW a b
  | .int i, .int j => decide (i = j)
  | .str x, .str y => decide (x = y)
  | .tup as, .tup bs => sameL as bs
  | .lst as, .lst bs => sameL as bs
  | _, _ => false
def sameL : List Dt → List Dt → Bool
  | [], [] => true
  | a :: as, b :: bs => sameW a b && sameL as bs
  | _, _ => false
end
def nice : Dt → Bool
  | .non | .bl _ | .int _ | .str _ => true
  | .tup ws => niceL ws
  | .lst ws => niceL ws
  | _ => false
where niceL : List Dt → Bool
  | [] => true
  | w :: ws => nice w && niceL ws
def dep : Dt → Nat
  | .tup ws => 1 + depL ws
  | .lst ws => 1 + depL ws
  | _ => 0
where depL : List Dt → Nat
  | [] => 0
  | w :: ws => max (dep w) (depL ws)
mutual
theorem sameW_self : ∀ {w : Dt}, nice w = true → sameW w w = true
  | .non, _ => by unfold sameW; rfl
  | .bl b, _ => by unfold sameW isBlW; cases b <;> rfl
  | .int i, _ => by unfold sameW; exact decide_eq_true rfl
  | .str i, _ => by unfold sameW; exact decide_eq_true rfl
  | .tup ws, h => by unfold sameW; unfold nice at h; exact sameL_self h
  | .lst ws, h => by unfold sameW; unfold nice at h; exact sameL_self h
  | .kl _, h => by unfold nice at h; cases h
  | .kt _, h => by unfold nice at h; cases h
  | .ty _, h => by unfold nice at h; cases h
  | .ins _ _ _, h => by unfold nice at h; cases h
  | .dK _ _, h => by unfold nice at h; cases h
  | .dT _ _, h => by unfold nice at h; cases h
  | .exn _ _ _ _, h => by unfold nice at h; cases h
  | .ref _, h => by unfold nice at h; cases h
theorem sameL_self : ∀ {ws : List Dt}, nice.niceL ws = true → sameL ws ws = true
  | [], _ => by unfold sameL; rfl
  | w :: ws, h => by
    unfold nice.niceL at h
    rw [Bool.and_eq_true] at h
    unfold sameL
    rw [sameW_self h.1, sameL_self h.2]
    rfl
end
theorem sameL_len : ∀ {as bs : List Dt}, as.length ≠ bs.length → sameL as bs = false
  | [], [], h => absurd rfl h
  | [], _ :: _, _ => by unfold sameL; rfl
  | _ :: _, [], _ => by unfold sameL; rfl
  | a :: as, b :: bs, h => by
    unfold sameL
    rw [sameL_len (as := as) (bs := bs) fun e => h (by rw [List.length_cons, List.length_cons, e]), Bool.and_false]
theorem sameL_at : ∀ {as bs : List Dt} {i : Nat} {x y : Dt}, as[i]? = some x → bs[i]? = some y → sameW x y = false → sameL as bs = false
  | [], _, i, x, y, h, _, _ => by simp at h
  | _ :: _, [], i, x, y, _, h, _ => by simp at h
  | a :: as, b :: bs, 0, x, y, h1, h2, h => by
    simp at h1 h2
    subst h1 h2
    unfold sameL
    rw [h, Bool.false_and]
  | a :: as, b :: bs, i + 1, x, y, h1, h2, h => by
    unfold sameL
    rw [sameL_at (i := i) (by simpa using h1) (by simpa using h2) h, Bool.and_false]
theorem sameL_all : ∀ {as bs : List Dt}, as.length = bs.length → (∀ (i : Nat) (x y : Dt), as[i]? = some x → bs[i]? = some y → sameW x y = true) → sameL as bs = true
  | [], [], _, _ => by unfold sameL; rfl
  | [], _ :: _, h, _ => by simp at h
  | _ :: _, [], h, _ => by simp at h
  | a :: as, b :: bs, h, k => by
    unfold sameL
    rw [k 0 a b rfl rfl, sameL_all (as := as) (bs := bs) (by simpa using h) fun i x y h1 h2 => k (i + 1) x y (by simpa using h1) (by simpa using h2)]
    rfl
theorem niceL_at : ∀ {ws : List Dt} {i : Nat} {w : Dt}, nice.niceL ws = true → ws[i]? = some w → nice w = true ∧ dep w ≤ dep.depL ws
  | [], i, w, _, h => by simp at h
  | a :: ws, 0, w, h, e => by
    unfold nice.niceL at h
    rw [Bool.and_eq_true] at h
    simp at e
    subst e
    unfold dep.depL
    exact ⟨h.1, Nat.le_max_left _ _⟩
  | a :: ws, i + 1, w, h, e => by
    unfold nice.niceL at h
    rw [Bool.and_eq_true] at h
    have := niceL_at (i := i) h.2 (by simpa using e)
    unfold dep.depL
    exact ⟨this.1, Nat.le_trans this.2 (Nat.le_max_right _ _)⟩
theorem cal_false {P : Program} {w : World} {K : Frg} {mg : Str → Option Value} {base : Heap} {x y : Str} {st : Stmt} {ps : List Str} {k n : Nat} (D : Dfn2 K mg x y st ps) : Cal P w K mg base x k ps n (fun _ _ _ _ => False) :=
  let ⟨f, fd, a, F, b⟩ := D
  ⟨f, fd, a, F.kp, b, ⟨fun _ _ _ _ ⟨_, _, _, _, _, _, _, _, g, _⟩ => g.elim, fun _ _ _ _ _ _ _ _ _ _ _ _ _ ⟨_, _, _, _, _, _, _, _, g, _⟩ => g.elim⟩⟩
/-- a number within bounds -/
def inW : Dt → Int → Int → Bool
  | .int i, lo, hi => decide (lo ≤ i) && decide (i ≤ hi)
  | _, _, _ => false
/-- a row of bytes -/
def rowW : Dt → Bool
  | .tup xs => decide (xs.length ≤ 300000) && xs.all (inW · 0 255)
  | _ => false
theorem rowW_of {w : Dt} (h : rowW w = true) : ∃ bs : List Int, w = .tup (bs.map Dt.int) ∧ bs.length ≤ 300000 ∧ ∀ b ∈ bs, 0 ≤ b ∧ b ≤ 255 := by
  cases w with
  | tup xs =>
    unfold rowW at h
    rw [Bool.and_eq_true] at h
    obtain ⟨h1, h2⟩ := h
    have : ∀ xs : List Dt, xs.all (inW · 0 255) = true → ∃ bs : List Int, xs = bs.map Dt.int ∧ ∀ b ∈ bs, 0 ≤ b ∧ b ≤ 255 := by
      intro xs
      induction xs with
      | nil => exact fun _ => ⟨[], rfl, fun b h => by cases h⟩
      | cons x xs ih =>
        intro h
        rw [List.all_cons, Bool.and_eq_true] at h
        obtain ⟨bs, e, hb⟩ := ih h.2
        cases x with
        | int i =>
          have hi := h.1
          unfold inW at hi
          rw [Bool.and_eq_true] at hi
          refine ⟨i :: bs, by rw [e]; rfl, fun b hb' => ?_⟩
          rcases List.mem_cons.mp hb' with rfl | hb'
          · exact ⟨of_decide_eq_true hi.1, of_decide_eq_true hi.2⟩
          · exact hb b hb'
        | _ => exact Bool.noConfusion (show false = true from h.1)
    obtain ⟨bs, e, hb⟩ := this xs h2
    refine ⟨bs, by rw [e], ?_, hb⟩
    have := of_decide_eq_true h1
    rw [e, List.length_map] at this
    exact this
  | _ => exact Bool.noConfusion (show false = true from h)
theorem rowW_ints {bs : List Int} (h1 : bs.length ≤ 300000) (h2 : ∀ b ∈ bs, 0 ≤ b ∧ b ≤ 255) : rowW (.tup (bs.map Dt.int)) = true := by
  unfold rowW
  rw [Bool.and_eq_true, List.length_map]
  refine ⟨decide_eq_true h1, List.all_eq_true.mpr fun x hx => ?_⟩
  obtain ⟨i, hi, rfl⟩ := List.mem_map.mp hx
  show (decide ((0 : Int) ≤ i) && decide (i ≤ 255)) = true
  rw [decide_eq_true (h2 i hi).1, decide_eq_true (h2 i hi).2]
  rfl
theorem sup_comm {S : Store} {a b : Addr} {o u : Ob} (h : a ≠ b) : sup (sup S a o) b u = sup (sup S b u) a o := by
  funext c
  unfold sup
  by_cases e : c = b
  · rw [if_pos e, if_neg (fun z => h (z.symm.trans e)), if_pos e]
  · by_cases e2 : c = a
    · rw [if_neg e, if_pos e2, if_pos e2]
    · rw [if_neg e, if_neg e2, if_neg e2, if_neg e]
theorem atI_mem {xs : List Dt} {i : Int} {w : Dt} (h : atI xs i = some w) : w ∈ xs := by
  unfold atI at h
  cases e : ixN xs.length i with
  | none => rw [e] at h; cases h
  | some j =>
    rw [e] at h
    exact List.mem_of_getElem? h
theorem atI_some {xs : List Dt} {i : Int} (h0 : 0 ≤ i) (h1 : i < (xs.length : Int)) : ∃ w, atI xs i = some w ∧ w ∈ xs := by
  have hl : i.toNat < xs.length := by omega
  refine ⟨xs[i.toNat], ?_, List.getElem_mem hl⟩
  unfold atI ixN
  rw [if_pos h0, if_pos h1]
  exact List.getElem?_eq_getElem hl
def bytesOf : Dt → List Int
  | .tup xs => xs.map fun x => match x with | .int i => i | _ => 0
  | _ => []
theorem bytesOf_ints (bs : List Int) : bytesOf (.tup (bs.map Dt.int)) = bs := by
  show (bs.map Dt.int).map (fun x => match x with | .int i => i | _ => 0) = bs
  rw [List.map_map]
  exact List.map_id' bs
theorem atI_ints {ns : List Int} {p : Int} (h0 : 0 ≤ p) (h : p < (ns.length : Int)) : ∃ x, atI (ns.map Dt.int) p = some (.int x) := by
  have hl : p.toNat < ns.length := by omega
  refine ⟨ns[p.toNat], ?_⟩
  unfold atI ixN
  rw [List.length_map, if_pos h0, if_pos h]
  show (ns.map Dt.int)[p.toNat]? = _
  rw [List.getElem?_map, List.getElem?_eq_getElem hl]
  rfl
theorem log_small {n : Int} (h : n.natAbs < 2 ^ 64) : n.natAbs.log2 < 9000 := by
  have := PySem.Flt.log2_lt_of (by decide : 0 < 64) h
  omega
theorem lsv_ref {S : Store} {a : Addr} {ws : List Dt} (h : S a = some (.lst ws)) : lsv S (.ref a) = some ws := by
  show (match S a with | some (.lst ws) => some ws | _ => none) = _
  rw [h]
theorem ty_lst {S : Store} {a : Addr} {ws : List Dt} (h : S a = some (.lst ws)) : tyW "list" S (.ref a) = true := by
  show (lsv S (.ref a)).isSome = true
  rw [lsv_ref h]
  rfl
theorem sup_at {S : Store} {a b : Addr} {o u : Ob} (h : a ≠ b) : sup (sup S a o) b u a = some o := by rw [sup_ne h, sup_same]
theorem sup_set {S : Store} {a b : Addr} {o u v : Ob} (h : a ≠ b) : sup (sup (sup S a o) b u) a v = sup (sup S a v) b u := by
  rw [sup_comm (Ne.symm h), sup_sup]
theorem rowW_tup (xs : List Dt) : rowW (.tup xs) = (decide (xs.length ≤ 300000) && xs.all (inW · 0 255)) := rfl
theorem cutW_take {α : Type} {xs : List α} {i : Int} (h0 : 0 ≤ i) : cutW xs none (some i) = xs.take i.toNat := by
  unfold cutW HT.sIx
  show (xs.drop 0).take ((if i < 0 then (i + (xs.length : Int)).toNat else min i.toNat xs.length) - 0) = _
  rw [if_neg (by omega), List.drop_zero, Nat.sub_zero]
  by_cases h : i.toNat ≤ xs.length
  · rw [Nat.min_eq_left h]
  · rw [Nat.min_eq_right (by omega), List.take_of_length_le (Nat.le_refl _), List.take_of_length_le (by omega)]
theorem cutW_drop {α : Type} {xs : List α} {i : Int} (h0 : 0 ≤ i) : cutW xs (some i) none = xs.drop i.toNat := by
  unfold cutW HT.sIx
  show (xs.drop (if i < 0 then (i + (xs.length : Int)).toNat else min i.toNat xs.length)).take (xs.length - (if i < 0 then (i + (xs.length : Int)).toNat else min i.toNat xs.length)) = _
  rw [if_neg (by omega), List.take_of_length_le (by rw [List.length_drop]; omega)]
  by_cases h : i.toNat ≤ xs.length
  · rw [Nat.min_eq_left h]
  · rw [Nat.min_eq_right (by omega), List.drop_of_length_le (Nat.le_refl _), List.drop_of_length_le (by omega)]
theorem ints_inj : ∀ {bs cs : List Int}, bs.map Dt.int = cs.map Dt.int → bs = cs
  | [], [], _ => rfl
  | [], _ :: _, h => nomatch h
  | _ :: _, [], h => nomatch h
  | b :: bs, c :: cs, h => by
    rw [List.map_cons, List.map_cons] at h
    injection h with h1 h2
    injection h1 with h1
    rw [h1, ints_inj h2]
theorem tup_ints_inj {bs cs : List Int} (h : Dt.tup (bs.map Dt.int) = .tup (cs.map Dt.int)) : bs = cs := by
  injection h with h
  exact ints_inj h
theorem inW_int {i lo hi : Int} (h0 : lo ≤ i) (h1 : i ≤ hi) : inW (.int i) lo hi = true := by
  show (decide (lo ≤ i) && decide (i ≤ hi)) = true
  rw [decide_eq_true h0, decide_eq_true h1]
  rfl
theorem atI_get {xs : List Dt} {i : Int} (h0 : 0 ≤ i) : atI xs i = xs[i.toNat]? := by
  unfold atI ixN
  rw [if_pos h0]
  by_cases h : i < (xs.length : Int)
  · rw [if_pos h]
    rfl
  · rw [if_neg h, List.getElem?_eq_none (by omega)]
    rfl
theorem inW_of {w : Dt} {lo hi : Int} (h : inW w lo hi = true) : ∃ i, w = .int i ∧ lo ≤ i ∧ i ≤ hi := by
  cases w with
  | int i =>
    have h : (decide (lo ≤ i) && decide (i ≤ hi)) = true := h
    rw [Bool.and_eq_true, decide_eq_true_eq, decide_eq_true_eq] at h
    exact ⟨i, rfl, h⟩
  | _ => exact Bool.noConfusion (show false = true from h)
theorem nice_ints (bs : List Int) : nice (.tup (bs.map Dt.int)) = true := by
  show nice.niceL (bs.map Dt.int) = true
  induction bs with
  | nil => rfl
  | cons b bs ih =>
    show (nice (.int b) && nice.niceL (bs.map Dt.int)) = true
    rw [ih]
    rfl
theorem depL_ints (bs : List Int) : dep.depL (bs.map Dt.int) = 0 := by
  induction bs with
  | nil => rfl
  | cons b bs ih =>
    show max (dep (.int b)) (dep.depL (bs.map Dt.int)) = 0
    rw [ih]
    rfl
theorem dep_ints (bs : List Int) : dep (.tup (bs.map Dt.int)) ≤ 1 := by
  show 1 + dep.depL (bs.map Dt.int) ≤ 1
  rw [depL_ints]
  exact Nat.le_refl _
theorem pl_pair {a b : Dt} (ha : pl a = true) (hb : pl b = true) : pl (.tup [a, b]) = true := pl_tup_of fun w h => by
  simp only [List.mem_cons, List.not_mem_nil, or_false] at h
  rcases h with rfl | rfl
  · exact ha
  · exact hb
theorem nice_pair {a b : Dt} (ha : nice a = true) (hb : nice b = true) : nice (.tup [a, b]) = true := by
  show (nice a && (nice b && true)) = true
  rw [ha, hb]
  rfl
theorem dep_pair {a b : Dt} (ha : dep a ≤ 0) (hb : dep b ≤ 1) : dep (.tup [a, b]) < 4 := by
  show 1 + max (dep a) (max (dep b) 0) < 4
  omega
theorem eqDL_ints : ∀ as bs : List Int, eqDL (as.map Dt.int) (bs.map Dt.int) = decide (as = bs)
  | [], [] => by unfold eqDL; rfl
  | [], b :: bs => by unfold eqDL; rfl
  | a :: as, [] => by unfold eqDL; rfl
  | a :: as, b :: bs => by
    rw [List.map_cons, List.map_cons]
    unfold eqDL
    rw [eqDL_ints as bs]
    unfold eqD
    by_cases h : a = b
    · by_cases h2 : as = bs <;> simp [h, h2]
    · simp [h]
theorem eqD_ints (as bs : List Int) : eqD (.tup (as.map Dt.int)) (.tup (bs.map Dt.int)) = decide (as = bs) := by
  unfold eqD
  exact eqDL_ints as bs
theorem fl_ints (k : Nat) (bs : List Int) : fl (k + 1) (.tup (bs.map Dt.int)) = true := by
  show (bs.map Dt.int).all (fl k) = true
  rw [List.all_eq_true]
  intro w hw
  obtain ⟨i, _, rfl⟩ := List.mem_map.mp hw
  cases k <;> rfl
/-- a comprehension whose element is taken from a store that moves -/
theorem comp_move {b : BW} {me : ME} {σ : Env} {vs : List Nat} {Q : List Dt → Store → Prop} (I : Nat → List Dt → Store → Prop) {all : List Dt} :
    ∀ (ws : List Dt) (i : Nat) (acc : List Dt) (S : Store), ws = all.drop i → i ≤ all.length → acc.length = i → all.length ≤ sizeLine → I i acc S →
    (∀ (i : Nat) (w : Dt) (acc : List Dt) (S : Store), all[i]? = some w → I i acc S → ∃ σ1, b w (wipeW σ vs) = some σ1 ∧ ∀ k : Dt → Store → Prop, (∀ y S', I (i + 1) (acc ++ [y]) S' → k y S') → me σ1 S k (fun _ _ => False)) →
    (∀ acc S, I all.length acc S → Q acc S) → compW b mYes me σ vs (fun _ => True) Q ws acc S
  | [], i, acc, S, e, hi, ha, hz, h0, hs, he => by
    unfold compW
    have : all.length ≤ i := by
      have := congrArg List.length e
      rw [List.length_nil, List.length_drop] at this
      omega
    have e2 : i = all.length := by omega
    subst e2
    exact ⟨trivial, he acc S h0⟩
  | w :: ws, i, acc, S, e, hi, ha, hz, h0, hs, he => by
    unfold compW
    refine ⟨trivial, ?_⟩
    have hl : i < all.length := by
      have := congrArg List.length e
      rw [List.length_cons, List.length_drop] at this
      omega
    have hd := List.drop_eq_getElem_cons hl
    rw [← e] at hd
    injection hd with h1 h2
    obtain ⟨σ1, eb, hm⟩ := hs i w acc S (by rw [List.getElem?_eq_getElem hl, ← h1]) h0
    rw [eb]
    show mYes σ1 S _ _
    unfold mYes
    exact hm _ fun y S' h' => ⟨by omega, comp_move I ws (i + 1) (acc ++ [y]) S' h2 (by omega) (by rw [List.length_append, ha]; rfl) hz h' hs he⟩
theorem cutW_mid {α : Type} {xs : List α} {lo hi : Int} (h0 : 0 ≤ lo) (h1 : lo ≤ hi) : cutW xs (some lo) (some hi) = (xs.drop lo.toNat).take (hi - lo).toNat := by
  unfold cutW HT.sIx
  show (xs.drop (if lo < 0 then (lo + (xs.length : Int)).toNat else min lo.toNat xs.length)).take ((if hi < 0 then (hi + (xs.length : Int)).toNat else min hi.toNat xs.length) - (if lo < 0 then (lo + (xs.length : Int)).toNat else min lo.toNat xs.length)) = _
  rw [if_neg (by omega), if_neg (by omega)]
  by_cases h : lo.toNat ≤ xs.length
  · rw [Nat.min_eq_left h]
    by_cases h2 : hi.toNat ≤ xs.length
    · rw [Nat.min_eq_left h2]
      congr 1
      omega
    · rw [Nat.min_eq_right (by omega), List.take_of_length_le (by rw [List.length_drop]; omega), List.take_of_length_le (by rw [List.length_drop]; omega)]
  · rw [show min lo.toNat xs.length = xs.length by omega, List.drop_of_length_le (Nat.le_refl _), List.drop_of_length_le (by omega), List.take_nil, List.take_nil]
theorem cutW_ints {bs : List Int} {a n : Nat} {m : Int} (hm : m = (n : Int)) : cutW (bs.map Dt.int) (some (a : Int)) (some ((a : Int) + m)) = ((bs.drop a).take n).map Dt.int := by
  subst hm
  rw [cutW_mid (by omega) (by omega), show ((a : Int) + (n : Int) - (a : Int)).toNat = n by omega, List.map_take, List.map_drop, Int.toNat_natCast]
theorem eqD_pair (a b c d : Dt) : eqD (.tup [a, b]) (.tup [c, d]) = (eqD a c && eqD b d) := by
  show eqDL [a, b] [c, d] = _
  show (eqD a c && (eqD b d && eqDL [] [])) = _
  rw [show eqDL [] [] = true from rfl, Bool.and_true]
theorem fl_pair {k : Nat} {a b : Dt} (ha : fl k a = true) (hb : fl k b = true) : fl (k + 1) (.tup [a, b]) = true := by
  show (fl k a && (fl k b && true)) = true
  rw [ha, hb]
  rfl
end Dn

namespace Dn
open PySem PySem.Spec PyProof.Rows L2
/-! ### own classes: fields, methods, making -/
section
variable {X : Cx} {CX : CXT} {k : Nat} {C f : Addr} {fd : FuncData} {ps : List Str} {sp : Sp} {E : L2.St → XK} {x m : Str} {p pos apos : Pos} {e o : Expr} {es : List Expr} {t : TA} {ta : TE}
def tMethS (C : Addr) (m : Str) (sp : Sp) (E : L2.St → XK) (ta : TE) (t : TA) : TE := fun σ H Q => ta σ H fun x H1 => ∃ a dx fs, x = .ref a ∧ H1 a = some (.ins C dx fs) ∧ fs.lookup m = none ∧ t σ H1 fun vs H2 => sp (x :: vs) H2 Q (E σ)
theorem pe_methD {pl : Sem Bool} (he : PE X o ta) (c : Cls X.K C) (hm : Meth X.K C m f) (F : FnOk X.prog X.w X.K X.mg X.base CX k f fd ps sp) (hr : Room k X.A) (hb : Binds X.K fd ps []) (hx : ∀ σ, PassesAt CX X σ (E σ)) (ha : PA X (e :: es) t)
    (hst : starEach (e :: es) X.env = (false, eval e X.env) :: starEach es X.env := by rfl) (hpl : (backTo pos (starEach es X.env)).any (·.1) = false := by rfl)
    (ht : eval (.Call (.Attribute o m apos) (e :: es) [] pos) X.env = (do
      let ov ← eval o X.env
      standAt apos.atName
      let (f, first) ← holding [ov] (getMethod ov m pl)
      callWith pos f first (backTo pos (starEach (e :: es) X.env)) (backToKw pos (keywordEach [] X.env))) := by rfl) :
    PE X (.Call (.Attribute o m apos) (e :: es) [] pos) (tMethS C m sp E ta t) := by
  refine ⟨fun pins s σ H Q I h => ?_⟩
  refine PySem.W.methodCall_KW (pl := pl) (thn (he.run pins s σ H _ I h) fun u s1 ⟨x, H1, I1, rx, a, dx, fs, ex, ea, l, q⟩ => ?_) ht
  subst ex
  obtain rfl : u = Value.ref a := rx
  refine getmeth_ok I1 ea c hm l ?_
  refine PySem.W.callWith_K (first := [.ref a]) (h₀ := X.base) I.ok.mod.kin hm.kp (thn (ha.run pos pins s1 σ H1 _ I1 q) fun us s2 ⟨vs, H2, I2, r, q2⟩ => ⟨I2.kIn, ?_⟩) hst hpl
  exact run_fnSD (us := .ref a :: us) (vs := .ref a :: vs) F hr hb .nil (hx σ) I2 (.cons rfl r) (by rw [List.append_nil]; exact q2)
theorem pe_methD0 {pl : Sem Bool} (he : PE X o ta) (c : Cls X.K C) (hm : Meth X.K C m f) (F : FnOk X.prog X.w X.K X.mg X.base CX k f fd ps sp) (hr : Room k X.A) (hb : Binds X.K fd ps []) (hx : ∀ σ, PassesAt CX X σ (E σ))
    (ht : eval (.Call (.Attribute o m apos) [] [] pos) X.env = (do
      let ov ← eval o X.env
      standAt apos.atName
      let (f, first) ← holding [ov] (getMethod ov m pl)
      callWith pos f first (backTo pos (starEach [] X.env)) (backToKw pos (keywordEach [] X.env))) := by rfl) :
    PE X (.Call (.Attribute o m apos) [] [] pos) (tMethS C m sp E ta tNil) := by
  refine ⟨fun pins s σ H Q I h => ?_⟩
  refine PySem.W.methodCall_KW (pl := pl) (thn (he.run pins s σ H _ I h) fun u s1 ⟨x, H1, I1, rx, a, dx, fs, ex, ea, l, q⟩ => ?_) ht
  subst ex
  obtain rfl : u = Value.ref a := rx
  refine getmeth_ok I1 ea c hm l ?_
  exact PySem.W.callWith_K0 (first := [.ref a]) I1.kIn hm.kp (run_fnSD (us := [.ref a]) (vs := [.ref a]) F hr hb .nil (hx σ) I1 (.cons rfl .nil) q)
theorem run_makeD {pins : List (Addr × Obj)} {σ : L2.St} {H : Hp} {s : Shared} {Q : VK} {us : List Value} {vs : List V} {E : XK} (M : Mk X.K C f) (F : FnOk X.prog X.w X.K X.mg X.base CX k f fd ps sp) (hr : Room (k + 1) X.A) (hb : Binds X.K fd ps [])
    (hx : PassesAt CX X σ E) (I : L2.Inv X pins σ H s) (r : Vals vs us)
    (h : ∀ x dx, H x = none → H dx = none → dx ≠ x → sp (.ref x :: vs) (upd (upd H dx (.own x)) x (.ins C dx [])) (fun v H2 => v = .non ∧ Q (.ref x) H2) E) :
    wpAny (model X.prog X.w) X.A (call (.ref C) us) (EP X pins σ Q) X.xe s := by
  have hq := h (s.heap.objs.size + 1) s.heap.objs.size (I.hok.fresh (Nat.le_succ _)) (I.hok.fresh (Nat.le_refl _)) (Nat.ne_of_lt (Nat.lt_succ_self _))
  have I2 := L2.Inv.made (C := C) I
  have r2 : Vals (V.ref (s.heap.objs.size + 1) :: vs) (Value.ref (s.heap.objs.size + 1) :: us) := .cons rfl r
  have hl : (Value.ref (s.heap.objs.size + 1) :: us ++ []).length = ps.length := by
    have e := r2.length
    rw [F.len _ _ _ _ hq] at e
    rw [List.append_nil]
    exact e.symm
  refine wpAny_call (make_map (f := f) I.kIn M.makes M.init (beq_iff_eq.mp M.fn) (codeAny_mono (F.run _ X.stack _ _ ⟨Value.ref (s.heap.objs.size + 1) :: us, []⟩ (Value.ref (s.heap.objs.size + 1) :: us) _ _ E (hr.make C us [])
    (I2.env0.make C us []) (by have := hb _ (Value.ref (s.heap.objs.size + 1) :: us) I2.kIn hl; rwa [List.append_nil] at this) r2 hq) fun r s' hq' => ?_))
  cases r with
  | error e => exact hx pins _ _ e s' I2 hq'
  | ok fl =>
    cases fl with
    | ret u =>
      obtain ⟨v, H', I3, rv, ev, q3⟩ := I2.after hq'
      subst ev
      exact ⟨rv, ⟨V.ref (s.heap.objs.size + 1), H', I3, rfl, q3⟩⟩
    | next => exact False.elim hq'
    | brk => exact False.elim hq'
    | cont => exact False.elim hq'
def tMakeS (C : Addr) (sp : Sp) (E : L2.St → XK) (t : TA) : TE := fun σ H Q => t σ H fun vs H1 => ∀ x dx, H1 x = none → H1 dx = none → dx ≠ x →
  sp (.ref x :: vs) (upd (upd H1 dx (.own x)) x (.ins C dx [])) (fun v H2 => v = .non ∧ Q (.ref x) H2) (E σ)
theorem pe_makeS (M : Mk X.K C f) (F : FnOk X.prog X.w X.K X.mg X.base CX k f fd ps sp) (hr : Room (k + 1) X.A) (hg : Gl X x) (hm : X.mg x = some (.ref C)) (hb : Binds X.K fd ps []) (hx : ∀ σ, PassesAt CX X σ (E σ))
    (ha : PA X (e :: es) t) (hdb : (x == ("__debug__" : Str)) = false := by decide) (he : starEach (e :: es) X.env = (false, eval e X.env) :: starEach es X.env := by rfl) (hpl : (backTo pos (starEach es X.env)).any (·.1) = false := by rfl) :
    PE X (.Call (.Name x p) (e :: es) [] pos) (tMakeS C sp E t) := by
  refine ⟨fun pins s σ H Q I h => ?_⟩
  refine wpAny_Call_Name_kw (ld_glob I hg hm ?_ hdb)
  refine PySem.W.callWith_K (h₀ := X.base) I.ok.mod.kin M.kp (thn (ha.run pos pins s σ H _ I h) fun us s1 ⟨vs, H1, I1, r, q⟩ => ⟨I1.kIn, ?_⟩) he hpl
  exact run_makeD M F hr hb (hx σ) I1 r q
theorem pe_makeS0 (M : Mk X.K C f) (F : FnOk X.prog X.w X.K X.mg X.base CX k f fd ps sp) (hr : Room (k + 1) X.A) (hg : Gl X x) (hm : X.mg x = some (.ref C)) (hb : Binds X.K fd ps []) (hx : ∀ σ, PassesAt CX X σ (E σ))
    (hdb : (x == ("__debug__" : Str)) = false := by decide) : PE X (.Call (.Name x p) [] [] pos) (tMakeS C sp E tNil) := by
  refine ⟨fun pins s σ H Q I h => ?_⟩
  refine wpAny_Call_Name_kw (ld_glob I hg hm ?_ hdb)
  exact PySem.W.callWith_K0 I.kIn M.kp (run_makeD (us := []) M F hr hb (hx σ) I .nil h)
end
/-! ### fields by their places -/
theorem zip_lookup {f : Str} : ∀ {ns : List Str} {i : Nat} {xs : List V} {v : V}, ns[i]? = some f → (∀ j, j < i → ns[j]? ≠ some f) → xs[i]? = some v → (ns.zip xs).lookup f = some v
  | [], i, xs, v, h, _, _ => by simp at h
  | n :: ns, 0, xs, v, h, _, hx => by
    cases xs with
    | nil => simp at hx
    | cons y xs =>
      simp at h hx
      subst h hx
      simp [List.lookup]
  | n :: ns, i + 1, xs, v, h, hn, hx => by
    cases xs with
    | nil => simp at hx
    | cons y xs =>
      have hne : (f == n) = false := by
        have := hn 0 (Nat.succ_pos _)
        simp at this
        simpa using fun z => this z.symm
      show (match f == n with | true => some y | false => (ns.zip xs).lookup f) = some v
      rw [hne]
      exact zip_lookup (i := i) (by simpa using h) (fun j hj => by have := hn (j + 1) (Nat.succ_lt_succ hj); simpa using this) (by simpa using hx)
theorem zip_no {f : Str} : ∀ {ns : List Str} {xs : List V}, f ∉ ns → (ns.zip xs).lookup f = none
  | [], xs, h => rfl
  | n :: ns, [], h => rfl
  | n :: ns, y :: xs, h => by
    rw [List.mem_cons, not_or] at h
    have hne : (f == n) = false := by simpa using h.1
    show (match f == n with | true => some y | false => (ns.zip xs).lookup f) = none
    rw [hne]
    exact zip_no h.2
theorem zip_put {f : Str} {u : V} : ∀ {ns : List Str} {i : Nat} {xs : List V}, ns[i]? = some f → (∀ j, j < i → ns[j]? ≠ some f) → xs.length = ns.length → putF f u (ns.zip xs) = ns.zip (xs.set i u)
  | [], i, xs, h, _, _ => by simp at h
  | n :: ns, 0, xs, h, _, hl => by
    cases xs with
    | nil => simp at hl
    | cons y xs =>
      simp at h
      subst h
      show (if n = n then _ else _) = _
      rw [if_pos rfl]
      rfl
  | n :: ns, i + 1, xs, h, hn, hl => by
    cases xs with
    | nil => simp at hl
    | cons y xs =>
      have hne : ¬ n = f := by
        have := hn 0 (Nat.succ_pos _)
        simpa using this
      show (if n = f then _ else _) = _
      rw [if_neg hne]
      have ih := zip_put (f := f) (u := u) (ns := ns) (i := i) (xs := xs) (by simpa using h) (fun j hj => by have := hn (j + 1) (Nat.succ_lt_succ hj); simpa using this) (by simpa using hl)
      exact congrArg (fun z => (n, y) :: z) ih
theorem zip_new {f : Str} {u : V} : ∀ {ns : List Str} {xs : List V}, f ∉ ns → xs.length = ns.length → putF f u (ns.zip xs) = (ns ++ [f]).zip (xs ++ [u])
  | [], xs, h, hl => by
    have : xs = [] := List.eq_nil_of_length_eq_zero (by simpa using hl)
    subst this
    rfl
  | n :: ns, xs, h, hl => by
    cases xs with
    | nil => simp at hl
    | cons y xs =>
      rw [List.mem_cons, not_or] at h
      show (if n = f then _ else _) = _
      rw [if_neg (fun z => h.1 z.symm)]
      exact congrArg (fun z => (n, y) :: z) (zip_new h.2 (by simpa using hl))
/-- the field f stands at place i of ns, and nowhere ahead -/
def FieldAt (ns : List Str) (i : Nat) (f : Str) : Prop := ns[i]? = some f ∧ ∀ j, j < i → ns[j]? ≠ some f
theorem fieldAt_of {ns : List Str} {i : Nat} {f : Str} (h : ns[i]? = some f ∧ f ∉ ns.take i) : FieldAt ns i f := ⟨h.1, fun j hj e => h.2 (by
  have : (ns.take i)[j]? = some f := by rw [List.getElem?_take_of_lt hj]; exact e
  exact List.mem_of_getElem? this)⟩
theorem Wd.putI {K : Frg} {P : Hid} {S : Store} {H : Hp} (W : Wd K P S H) {a C dx : Addr} {ns : List Str} {ws : List Dt} {xs : List V} {u : Ob} (ea : S a = some u) (hz : ns.length = ws.length) (rl : RpL K P (sup S a (.ins C ns ws)) (upd H a (.ins C dx (ns.zip xs))) ws xs) :
    Wd K P (sup S a (.ins C ns ws)) (upd H a (.ins C dx (ns.zip xs))) := W.put (b := .ins C ns ws) (W.nohid ea) (fun n => by rw [ea] at n; cases n) ⟨dx, xs, upd_same, hz, rl⟩
/-- a class of which instances have plain fields -/
structure FldC (K : Frg) (C : Addr) (f : Str) : Prop where
  cl : Cls K C
  no : NoAttr K C f
/-- a field's value -/
def fldQ (C0 : Addr) (ns0 : List Str) (i : Nat) (Q : Dt → Store → Prop) (w : Dt) (S : Store) : Prop := match w with
  | .ins C ns ws => C = C0 ∧ ns = ns0 ∧ (match ws[i]? with | some v => Q v S | none => False)
  | .ref a => match S a with
    | some (.ins C ns ws) => C = C0 ∧ ns = ns0 ∧ (match ws[i]? with | some v => Q v S | none => False)
    | _ => False
  | _ => False
def mFld (C0 : Addr) (ns0 : List Str) (i : Nat) (me : ME) : ME := fun σ S Q Ex => me σ S (fldQ C0 ns0 i Q) Ex
section
variable {X : Cx} {E : WX}
theorem je_fld {C0 : Addr} {ns0 : List Str} {i : Nat} {f : Str} {e : Expr} {me : ME} {pos : Pos} (T : FldC X.K C0 f) (hi : FieldAt ns0 i f) (he : JE X E e me) (hb : attributeBase e f X.env (eval e X.env) = eval e X.env := by rfl) :
    JE X E (.Attribute e f pos) (mFld C0 ns0 i me) := PE.weak (pe_fld he hb) fun σv H Qv q => by
  obtain ⟨P, S, σ, Q, Ex, W, r, m, nq, nx⟩ := q
  refine ⟨P, S, σ, _, Ex, W, r, m, fun v H1 w S1 W1 r1 e1 m1 => ?_, nx⟩
  unfold fldQ at m1
  split at m1
  · rename_i C ns ws
    obtain ⟨rfl, rfl, m1⟩ := m1
    split at m1
    · rename_i u eu
      unfold Rp at r1
      obtain ⟨a, dx, xs, rfl, fz, hz, rl⟩ := r1
      obtain ⟨y, ey, ry⟩ := rl.get eu
      exact ⟨a, _, dx, _, y, rfl, fz.1, T.cl, T.no, zip_lookup hi.1 hi.2 ey, nq y H1 u S1 W1 ry e1 m1⟩
    · exact m1.elim
  · rename_i a
    split at m1
    · rename_i C ns ws ea
      obtain ⟨rfl, rfl, m1⟩ := m1
      split at m1
      · rename_i u eu
        rw [rp_ref] at r1
        subst r1
        obtain ⟨dx, xs, eh, hz, rl⟩ := W1.sim a _ ea
        obtain ⟨y, ey, ry⟩ := rl.get eu
        exact ⟨a, _, dx, _, y, rfl, eh, T.cl, T.no, zip_lookup hi.1 hi.2 ey, nq y H1 u S1 W1 ry e1 m1⟩
      · exact m1.elim
    · exact m1.elim
  · exact m1.elim
/-- a field is set -/
def stF (C0 : Addr) (ns0 : List Str) (i : Nat) (v : Dt) (Q : Store → Prop) (w : Dt) (S : Store) : Prop := match w with
  | .ref a => match S a with
    | some (.ins C ns ws) => C = C0 ∧ ns = ns0 ∧ Q (sup S a (.ins C ns (ws.set i v)))
    | _ => False
  | _ => False
/-- a field more, in __init__ -/
def stN (C0 : Addr) (ns0 ns1 : List Str) (v : Dt) (Q : Store → Prop) (w : Dt) (S : Store) : Prop := match w with
  | .ref a => match S a with
    | some (.ins C ns ws) => C = C0 ∧ ns = ns0 ∧ Q (sup S a (.ins C ns1 (ws ++ [v])))
    | _ => False
  | _ => False
def mSetF (C0 : Addr) (ns0 : List Str) (i : Nat) (mo mv : ME) : MS := fun D σ S => mv σ S (fun v S1 => mo σ S1 (fun w S2 => stF C0 ns0 i v (fun S3 => D.nx σ S3) w S2) (fun x S' => D.ex x σ S')) (fun x S' => D.ex x σ S')
def mNewF (C0 : Addr) (ns0 ns1 : List Str) (mo mv : ME) : MS := fun D σ S => mv σ S (fun v S1 => mo σ S1 (fun w S2 => stN C0 ns0 ns1 v (fun S3 => D.nx σ S3) w S2) (fun x S' => D.ex x σ S')) (fun x S' => D.ex x σ S')
theorem js_setF {C0 : Addr} {ns0 : List Str} {i : Nat} {f : Str} {o value : Expr} {mo mv : ME} {pos pos' : Pos} (T : FldC X.K C0 f) (hi : FieldAt ns0 i f) (hn : ns0.length < 1000) (ho : JE X E o mo) (hv : JE X E value mv)
    (hs : swapsWith value (some (.Attribute o f pos')) pos.line X.env = pure false := by rfl) : JS X E (.Assign [.Attribute o f pos'] value pos) (mSetF C0 ns0 i mo mv) := PS.weak (ps_fld ho hv hs) fun σv H D q => by
  obtain ⟨P, S, σ, Dw, W, r, m, d⟩ := q
  refine ⟨P, S, σ, _, _, W, r, m, fun v H1 w S1 W1 r1 e1 m1 => ?_, d.ex.at r⟩
  refine ⟨P, S1, σ, _, _, W1, r.mono e1, m1, fun u H2 z S2 W2 r2 e2 m2 => ?_, (d.ex.at r).after e1⟩
  unfold stF at m2
  dsimp only at m2
  split at m2
  · rename_i a
    split at m2
    · rename_i C ns ws ea
      obtain ⟨rfl, rfl, m2⟩ := m2
      rw [rp_ref] at r2
      subst r2
      obtain ⟨dx, xs, eh, hz, rl⟩ := W2.sim a _ ea
      have hl : xs.length = ns.length := by rw [← rl.length]; exact hz.symm
      refine ⟨a, _, dx, _, rfl, eh, T.cl, T.no, by rw [List.length_zip]; omega, ?_⟩
      rw [zip_put hi.1 hi.2 hl]
      have ev : Evo S2 H2 (sup S2 a (.ins C ns (ws.set i w))) (upd H2 a (.ins C dx (ns.zip (xs.set i v)))) := Evo.set ea
      have rs := (rl.set i (r1.mono e2)).mono ev
      exact d.nx _ _ _ _ (W2.putI ea (by rw [List.length_set]; exact hz) rs) (r.mono ((e1.trans e2).trans ev)) ((e1.trans e2).trans ev) m2
    · exact m2.elim
  · exact m2.elim
theorem js_newF {C0 : Addr} {ns0 ns1 : List Str} {f : Str} {o value : Expr} {mo mv : ME} {pos pos' : Pos} (T : FldC X.K C0 f) (hi : f ∉ ns0) (h1 : ns1 = ns0 ++ [f]) (hn : ns0.length < 1000) (ho : JE X E o mo) (hv : JE X E value mv)
    (hs : swapsWith value (some (.Attribute o f pos')) pos.line X.env = pure false := by rfl) : JS X E (.Assign [.Attribute o f pos'] value pos) (mNewF C0 ns0 ns1 mo mv) := PS.weak (ps_fld ho hv hs) fun σv H D q => by
  obtain ⟨P, S, σ, Dw, W, r, m, d⟩ := q
  refine ⟨P, S, σ, _, _, W, r, m, fun v H1 w S1 W1 r1 e1 m1 => ?_, d.ex.at r⟩
  refine ⟨P, S1, σ, _, _, W1, r.mono e1, m1, fun u H2 z S2 W2 r2 e2 m2 => ?_, (d.ex.at r).after e1⟩
  unfold stN at m2
  dsimp only at m2
  split at m2
  · rename_i a
    split at m2
    · rename_i C ns ws ea
      obtain ⟨rfl, rfl, m2⟩ := m2
      rw [rp_ref] at r2
      subst r2
      obtain ⟨dx, xs, eh, hz, rl⟩ := W2.sim a _ ea
      have hl : xs.length = ns.length := by rw [← rl.length]; exact hz.symm
      refine ⟨a, _, dx, _, rfl, eh, T.cl, T.no, by rw [List.length_zip]; omega, ?_⟩
      rw [zip_new hi hl, ← h1]
      have ev : Evo S2 H2 (sup S2 a (.ins C ns1 (ws ++ [w]))) (upd H2 a (.ins C dx (ns1.zip (xs ++ [v])))) := Evo.set ea
      have rs := (rl.append (RpL.cons (r1.mono e2) RpL.nil)).mono ev
      exact d.nx _ _ _ _ (W2.putI ea (by rw [h1, List.length_append, List.length_append, hz]; rfl) rs) (r.mono ((e1.trans e2).trans ev)) ((e1.trans e2).trans ev) m2
    · exact m2.elim
  · exact m2.elim
def pyIAddI : Op2
  | .int i, .int j, S, Q => Q (.int (i + j)) S
  | _, _, _, _ => False
/-- o.f op= e -/
def mAugF (C0 : Addr) (ns0 : List Str) (i : Nat) (g : Op2) (mo mv : ME) : MS := fun D σ S => mo σ S (fun w S1 => match w with
  | .ref a => fldQ C0 ns0 i (fun u S1 => mv σ S1 (fun v S2 => g u v S2 (fun z S3 => stF C0 ns0 i z (fun S4 => D.nx σ S4) (.ref a) S3)) (fun x S' => D.ex x σ S')) (.ref a) S1
  | _ => False) (fun x S' => D.ex x σ S')
def InOpR (X : Cx) (op : Operator) (r : R2) : Prop := InOp X op r
theorem js_augF {C0 : Addr} {ns0 : List Str} {i : Nat} {f : Str} {o value : Expr} {mo mv : ME} {op : Operator} {g : Op2} {tpos pos : Pos} (T : FldC X.K C0 f) (hi : FieldAt ns0 i f) (hn : ns0.length < 1000) (ho : JE X E o mo) (hv : JE X E value mv) (hop : InOp X op (rd2 X.K g)) :
    JS X E (.AugAssign (.Attribute o f tpos) op value pos) (mAugF C0 ns0 i g mo mv) := PS.weak (ps_fldaug ho hv hop) fun σv H D q => by
  obtain ⟨P, S, σ, Dw, W, r, m, d⟩ := q
  refine ⟨P, S, σ, _, _, W, r, m, fun u0 H1 w S1 W1 r1 e1 m1 => ?_, d.ex.at r⟩
  dsimp only at m1
  split at m1
  · rename_i a
    unfold fldQ at m1
    dsimp only at m1
    split at m1
    · rename_i C ns ws ea
      obtain ⟨rfl, rfl, m1⟩ := m1
      split at m1
      · rename_i u eu
        rw [rp_ref] at r1
        subst r1
        obtain ⟨dx, xs, eh, hz, rl⟩ := W1.sim a _ ea
        obtain ⟨y, ey, ry⟩ := rl.get eu
        refine ⟨a, _, dx, _, y, rfl, eh, T.cl, T.no, zip_lookup hi.1 hi.2 ey, ?_⟩
        refine ⟨P, S1, σ, _, _, W1, r.mono e1, m1, fun v H2 z S2 W2 r2 e2 m2 => ?_, (d.ex.at r).after e1⟩
        refine ⟨P, S2, u, z, _, W2, ry.mono e2, r2, m2, fun v3 H3 z3 S3 W3 r3 e3 m3 => ?_⟩
        unfold stF at m3
        dsimp only at m3
        split at m3
        · rename_i C2 ns2 ws2 ea2
          obtain ⟨rfl, rfl, m3⟩ := m3
          obtain ⟨dx2, xs2, eh2, hz2, rl2⟩ := W3.sim a _ ea2
          have hl : xs2.length = ns2.length := by rw [← rl2.length]; exact hz2.symm
          refine ⟨dx2, _, eh2, by rw [List.length_zip]; omega, ?_⟩
          rw [zip_put hi.1 hi.2 hl]
          have ev : Evo S3 H3 (sup S3 a (.ins C2 ns2 (ws2.set i z3))) (upd H3 a (.ins C2 dx2 (ns2.zip (xs2.set i v3)))) := Evo.set ea2
          have rs := (rl2.set i r3).mono ev
          have ee := ((e1.trans e2).trans e3).trans ev
          exact d.nx _ _ _ _ (W3.putI ea2 (by rw [List.length_set]; exact hz2) rs) (r.mono ee) ee m3
        · exact m3.elim
      · exact m1.elim
    · exact m1.elim
  · exact m1.elim
theorem in_addW : InOp X .Add (rd2 X.K pyIAddI) := by
  intro pins s σ H x y u v Q I rx ry h
  obtain ⟨P, S, w, z, Qw, W, r1, r2, g, nq⟩ := h
  unfold pyIAddI at g
  split at g
  · rename_i i j
    rw [rp_int] at r1 r2
    exact in_add pins s σ H x y u v Q I rx ry ⟨i, j, r1, r2, nq.now W rpInt g⟩
  · exact g.elim
end
/-! ### {k: v, ..} -/
def kyW : Key → Dt
  | .inl i => .int i
  | .inr x => .str x
theorem kyW_V {K : Frg} {P : Hid} {S : Store} {H : Hp} {k : Key} {v : V} (r : Rp K P S H (kyW k) v) : v = kV k := by
  cases k with
  | inl i => exact rp_int.mp r
  | inr i => exact rp_str.mp r
def mPairs : List (ME × ME) → Env → Store → (List (Dt × Dt) → Store → Prop) → (Exn → Store → Prop) → Prop
  | [], _, S, Q, _ => Q [] S
  | (mk, mv) :: r, σ, S, Q, Ex => mk σ S (fun x S1 => mv σ S1 (fun y S2 => mPairs r σ S2 (fun ps S3 => Q ((x, y) :: ps) S3) Ex) Ex) Ex
inductive JPs (X : Cx) (E : WX) (pos : Pos) : List (Option Expr) → List Expr → List (ME × ME) → Prop where
  | nil : JPs X E pos [] [] []
  | cons {k v : Expr} {ks : List (Option Expr)} {vs : List Expr} {mk mv : ME} {ms : List (ME × ME)} (hk : JE X E k mk) (hv : JE X E v mv) (hr : JPs X E pos ks vs ms) : JPs X E pos (some k :: ks) (v :: vs) ((mk, mv) :: ms)
def trsOf (K : Frg) (E : WX) (ms : List (ME × ME)) : List (TE × TE) := ms.map fun p => (rdE K E p.1, rdE K E p.2)
theorem JPs.pps {X : Cx} {E : WX} {pos : Pos} : ∀ {ks : List (Option Expr)} {vs : List Expr} {ms : List (ME × ME)}, JPs X E pos ks vs ms → PPs X pos ks vs (trsOf X.K E ms)
  | _, _, _, .nil => pps_nil
  | _, _, _, .cons hk hv hr => pps_cons hk hv hr.pps
theorem JPs.len {X : Cx} {E : WX} {pos : Pos} : ∀ {ks : List (Option Expr)} {vs : List Expr} {ms : List (ME × ME)}, JPs X E pos ks vs ms → ks.all (·.isSome) = true ∧ ks.length = vs.length
  | _, _, _, .nil => ⟨rfl, rfl⟩
  | _, _, _, .cons hk hv hr => ⟨by rw [List.all_cons, hr.len.1]; rfl, by rw [List.length_cons, List.length_cons, hr.len.2]⟩
def zipKy : List (Dt × Dt) → List Key → List Dt → Prop
  | [], [], [] => True
  | (x, y) :: ps, k :: ks, w :: ws => x = kyW k ∧ y = w ∧ zipKy ps ks ws
  | _, _, _ => False
def RpP (K : Frg) (P : Hid) (S : Store) (H : Hp) : List (Dt × Dt) → List (V × V) → Prop
  | [], [] => True
  | (x, y) :: ps, (u, v) :: qs => Rp K P S H x u ∧ Rp K P S H y v ∧ RpP K P S H ps qs
  | _, _ => False
theorem RpP.mono {K : Frg} {P : Hid} {S S' : Store} {H H' : Hp} (e : Evo S H S' H') : ∀ {ps : List (Dt × Dt)} {qs : List (V × V)}, RpP K P S H ps qs → RpP K P S' H' ps qs
  | [], [], _ => trivial
  | (x, y) :: ps, (u, v) :: qs, ⟨a, b, c⟩ => ⟨a.mono e, b.mono e, RpP.mono e c⟩
  | [], _ :: _, h => h.elim
  | _ :: _, [], h => h.elim
theorem pairs_weak {K : Frg} {E : WX} : ∀ {ms : List (ME × ME)} {P : Hid} {S : Store} {H : Hp} {σ : Env} {σv : L2.St} {Q : List (Dt × Dt) → Store → Prop} {Qv : List (V × V) → Hp → Prop} {Ex : Exn → Store → Prop}, Wd K P S H → RpS K P S H σ σv → mPairs ms σ S Q Ex →
    (∀ ps qs S' H', Wd K P S' H' → RpP K P S' H' ps qs → Evo S H S' H' → Q ps S' → Qv qs H') → NX K P S H Ex (fun c d H' => E c d σv H') → tPairs (trsOf K E ms) σv H Qv
  | [], P, S, H, σ, σv, Q, Qv, Ex, W, r, m, nq, nx => nq [] [] S H W trivial Evo.refl m
  | (mk, mv) :: ms, P, S, H, σ, σv, Q, Qv, Ex, W, r, m, nq, nx => by
    refine ⟨P, S, σ, _, Ex, W, r, m, fun u H1 x S1 W1 r1 e1 m1 => ?_, nx⟩
    refine ⟨P, S1, σ, _, Ex, W1, r.mono e1, m1, fun v H2 y S2 W2 r2 e2 m2 => ?_, nx.after e1⟩
    exact pairs_weak W2 (r.mono (e1.trans e2)) m2 (fun ps qs S3 H3 W3 rp e3 q => nq ((x, y) :: ps) ((u, v) :: qs) S3 H3 W3 ⟨r1.mono (e2.trans e3), r2.mono e3, rp⟩ ((e1.trans e2).trans e3) q) (nx.after (e1.trans e2))
theorem zipKy_of {K : Frg} {P : Hid} {S : Store} {H : Hp} : ∀ {ps : List (Dt × Dt)} {qs : List (V × V)} {ks : List Key} {ws : List Dt}, RpP K P S H ps qs → zipKy ps ks ws → ∃ xs, qs = (ks.zip xs).map (fun kv => (kV kv.1, kv.2)) ∧ ks.length = ws.length ∧ RpL K P S H ws xs
  | [], [], [], [], _, _ => ⟨[], rfl, rfl, RpL.nil⟩
  | (x, y) :: ps, (u, v) :: qs, k :: ks, w :: ws, ⟨a, b, c⟩, ⟨z1, z2, z3⟩ => by
    obtain ⟨xs, e, l, rl⟩ := zipKy_of c z3
    subst z1 z2
    have := kyW_V a
    subst this
    exact ⟨v :: xs, by rw [e]; rfl, by rw [List.length_cons, List.length_cons, l], RpL.cons b rl⟩
  | [], _ :: _, _, _, h, _ => h.elim
  | _ :: _, [], _, _, h, _ => h.elim
  | [], [], _ :: _, _, _, h => h.elim
  | [], [], [], _ :: _, _, h => h.elim
  | (_, _) :: _, _ :: _, [], _, _, h => h.elim
  | (_, _) :: _, _ :: _, _ :: _, [], _, h => h.elim
theorem mergeK_zip : ∀ {ks : List Key} {xs : List V} (acc : List (Key × V)), (∀ k ∈ ks, valV acc k = none) → ks.Nodup → ks.length = xs.length → mergeK acc (ks.zip xs) = acc ++ ks.zip xs
  | [], xs, acc, _, _, _ => (List.append_nil _).symm
  | k :: ks, [], acc, _, _, h => by simp at h
  | k :: ks, x :: xs, acc, h, nd, hl => by
    show mergeK (putK acc k x) (ks.zip xs) = acc ++ (k, x) :: ks.zip xs
    rw [putK_new _ (h k List.mem_cons_self)]
    rw [List.nodup_cons] at nd
    rw [mergeK_zip _ (fun k' hk' => ?_) nd.2 (by simpa using hl), List.append_assoc]
    · rfl
    · have h1 := h k' (List.mem_cons_of_mem _ hk')
      unfold valV at h1 ⊢
      rw [List.find?_append]
      rw [Option.map_eq_none_iff] at h1
      rw [h1]
      have : ¬ (k = k') := fun z => nd.1 (z ▸ hk')
      simp [this]
/-- a new dict -/
abbrev MD := Env → Store → (List Key → List Dt → Store → Prop) → (Exn → Store → Prop) → Prop
def rdD (K : Frg) (E : WX) (m : MD) : TE := fun σv H Qv => ∃ P S σ Q Ex, Wd K P S H ∧ RpS K P S H σ σv ∧ m σ S Q Ex ∧
  (∀ p H' H1 (xs : List V) (ks : List Key) (ws : List Dt) S', Wd K P S' H' → H' p = none → H1 = upd H' p (.dK (ks.zip xs)) → ks.length = ws.length → RpL K P S' H' ws xs → Evo S H S' H' → Q ks ws S' → Qv (.ref p) H1) ∧ NX K P S H Ex (fun c d H' => E c d σv H')
def JD (X : Cx) (E : WX) (e : Expr) (m : MD) : Prop := PE X e (rdD X.K E m)
def mFrzD (m : MD) : ME := fun σ S Q Ex => m σ S (fun ks ws S1 => Q (.dK ks ws) S1) Ex
def mRefD (m : MD) : ME := fun σ S Q Ex => m σ S (fun ks ws S1 => ∀ p, S1 p = none → Q (.ref p) (sup S1 p (.dK ks ws))) Ex
abbrev MDT := Env → Store → (List (List Key) → List Dt → Store → Prop) → (Exn → Store → Prop) → Prop
def rdDT (K : Frg) (E : WX) (m : MDT) : TE := fun σv H Qv => ∃ P S σ Q Ex, Wd K P S H ∧ RpS K P S H σ σv ∧ m σ S Q Ex ∧
  (∀ p H' H1 (xs : List V) (ks : List (List Key)) (ws : List Dt) S', Wd K P S' H' → H' p = none → H1 = upd H' p (.dT (ks.zip xs)) → ks.length = ws.length → RpL K P S' H' ws xs → Evo S H S' H' → Q ks ws S' → Qv (.ref p) H1) ∧ NX K P S H Ex (fun c d H' => E c d σv H')
def JDT (X : Cx) (E : WX) (e : Expr) (m : MDT) : Prop := PE X e (rdDT X.K E m)
def mFrzT (m : MDT) : ME := fun σ S Q Ex => m σ S (fun ks ws S1 => Q (.dT ks ws) S1) Ex
def mRefT (m : MDT) : ME := fun σ S Q Ex => m σ S (fun ks ws S1 => ∀ p, S1 p = none → Q (.ref p) (sup S1 p (.dT ks ws))) Ex
def mNewD : MD := fun _ S Q _ => Q [] [] S
def mNewT : MDT := fun _ S Q _ => Q [] [] S
/-- a display whose keys are unlike ints and texts -/
def mDisp (ms : List (ME × ME)) : MD := fun σ S Q Ex => mPairs ms σ S (fun ps S1 => ∃ ks ws, zipKy ps ks ws ∧ ks.Nodup ∧ ks.length ≤ 15 ∧ Q ks ws S1) Ex
section
variable {X : Cx} {E : WX}
theorem je_frzD {e : Expr} {m : MD} (h : JD X E e m) : JE X E e (mFrzD m) := PE.weak h fun σv H Qv q => by
  obtain ⟨P, S, σ, Q, Ex, W, r, m, nq, nx⟩ := q
  refine ⟨P, S, σ, _, Ex, W, r, m, fun p H' H1 xs ks ws S' W' hp e1 hl rl ev q => ?_, nx⟩
  subst e1
  refine nq (.ref p) _ (.dK ks ws) S' (W'.new hp) ?_ (ev.trans (Evo.new hp)) q
  unfold Rp
  exact ⟨p, xs, rfl, Fz.new W' hp, hl, rl.mono (Evo.new hp)⟩
theorem je_refD {e : Expr} {m : MD} (h : JD X E e m) : JE X E e (mRefD m) := PE.weak h fun σv H Qv q => by
  obtain ⟨P, S, σ, Q, Ex, W, r, m, nq, nx⟩ := q
  refine ⟨P, S, σ, _, Ex, W, r, m, fun p H' H1 xs ks ws S' W' hp e1 hl rl ev q => ?_, nx⟩
  subst e1
  have fr := W'.free hp
  refine nq (.ref p) _ (.ref p) (sup S' p (.dK ks ws)) (W'.put (b := .dK ks ws) fr.2 (fun _ => hp) ⟨xs, upd_same, hl, rl.mono (Evo.alloc hp)⟩) rpRef (ev.trans (Evo.alloc hp)) (q p fr.1)
theorem je_frzT {e : Expr} {m : MDT} (h : JDT X E e m) : JE X E e (mFrzT m) := PE.weak h fun σv H Qv q => by
  obtain ⟨P, S, σ, Q, Ex, W, r, m, nq, nx⟩ := q
  refine ⟨P, S, σ, _, Ex, W, r, m, fun p H' H1 xs ks ws S' W' hp e1 hl rl ev q => ?_, nx⟩
  subst e1
  refine nq (.ref p) _ (.dT ks ws) S' (W'.new hp) ?_ (ev.trans (Evo.new hp)) q
  unfold Rp
  exact ⟨p, xs, rfl, Fz.new W' hp, hl, rl.mono (Evo.new hp)⟩
theorem je_refT {e : Expr} {m : MDT} (h : JDT X E e m) : JE X E e (mRefT m) := PE.weak h fun σv H Qv q => by
  obtain ⟨P, S, σ, Q, Ex, W, r, m, nq, nx⟩ := q
  refine ⟨P, S, σ, _, Ex, W, r, m, fun p H' H1 xs ks ws S' W' hp e1 hl rl ev q => ?_, nx⟩
  subst e1
  have fr := W'.free hp
  refine nq (.ref p) _ (.ref p) (sup S' p (.dT ks ws)) (W'.put (b := .dT ks ws) fr.2 (fun _ => hp) ⟨xs, upd_same, hl, rl.mono (Evo.alloc hp)⟩) rpRef (ev.trans (Evo.alloc hp)) (q p fr.1)
theorem jd_new {pos : Pos} : JD X E (.Dict [] [] pos) mNewD := PE.weak pe_dnewK fun σv H Qv q => by
  obtain ⟨P, S, σ, Q, Ex, W, r, m, nq, nx⟩ := q
  exact fun p hp => nq p H _ [] [] [] S W hp rfl rfl RpL.nil Evo.refl m
theorem jd_newT {pos : Pos} : JDT X E (.Dict [] [] pos) mNewT := PE.weak pe_dnewT fun σv H Qv q => by
  obtain ⟨P, S, σ, Q, Ex, W, r, m, nq, nx⟩ := q
  exact fun p hp => nq p H _ [] [] [] S W hp rfl rfl RpL.nil Evo.refl m
/-- while a new object at p is made: it is hidden -/
theorem hide {K : Frg} {P : Hid} {S : Store} {H : Hp} {p : Addr} {o : HO} (W : Wd K P S H) (hp0 : H p = none) : Wd K (fun b => P b ∨ b = p) S (upd H p o) := by
  have nD : ∀ {a o}, H a = some o → a ≠ p := fun h z => by rw [z, hp0] at h; cases h
  refine ⟨fun a o e => ?_, fun a q => ?_⟩
  · exact (W.sim a o e).conv (fun a' o' h' n' p' => ⟨by rw [upd_ne (nD h')]; exact h', n', fun q => q.elim p' fun z => nD h' z⟩) (fun u hu => by rw [upd_ne (nD hu)]; exact hu)
  · rcases q with q | q
    · obtain ⟨h1, u, h2⟩ := W.hid a q
      exact ⟨h1, u, by rw [upd_ne (nD h2)]; exact h2⟩
    · rw [q]; exact ⟨(W.free hp0).1, _, upd_same⟩
theorem unhide {K : Frg} {P : Hid} {S S2 : Store} {H H2 : Hp} {p : Addr} {o ob : HO} (W : Wd K P S H) (hp0 : H p = none) (W2 : Wd K (fun b => P b ∨ b = p) S2 H2) (e2 : Evo S (upd H p o) S2 H2) :
    Wd K P S2 (hdel H2 p) ∧ Evo S H S2 (hdel H2 p) ∧ S2 p = none ∧ H2 p = some o ∧ (∀ a o, H2 a = some o → S2 a = none → ¬ (P a ∨ a = p) → hdel H2 p a = some o ∧ S2 a = none ∧ ¬ P a) ∧ hdel H2 p p = none ∧ upd (hdel H2 p) p ob = upd H2 p ob := by
  have fr := W.free hp0
  have nD : ∀ {a o}, H a = some o → a ≠ p := fun h z => by rw [z, hp0] at h; cases h
  have sD := (W2.hid p (.inr rfl)).1
  have dn : ∀ {a : Addr}, a ≠ p → hdel H2 p a = H2 a := fun {a} z => by unfold hdel; rw [if_neg z]
  have c : ∀ a o, H2 a = some o → S2 a = none → ¬ (P a ∨ a = p) → hdel H2 p a = some o ∧ S2 a = none ∧ ¬ P a := fun a o h n q => ⟨by rw [dn fun z => q (.inr z)]; exact h, n, fun z => q (.inl z)⟩
  refine ⟨⟨fun a o e => (W2.sim a o e).conv c fun u hu => by rw [dn fun z => by rw [z, sD] at e; cases e]; exact hu, fun a q => ?_⟩, fun a o n h => ?_, sD, (e2 p _ fr.1 upd_same).1, c, by unfold hdel; rw [if_pos rfl], ?_⟩
  · obtain ⟨h1, u, h2⟩ := W2.hid a (.inl q)
    have ne : a ≠ p := fun z => fr.2 (by rw [← z]; exact q)
    exact ⟨h1, u, by rw [dn ne]; exact h2⟩
  · obtain ⟨h1, h2⟩ := e2 a o n (by rw [upd_ne (nD h)]; exact h)
    exact ⟨by rw [dn (nD h)]; exact h1, h2⟩
  · funext a
    by_cases z : a = p
    · rw [z, upd_same, upd_same]
    · rw [upd_ne z, upd_ne z, dn z]
theorem jd_disp {pos : Pos} {keys : List (Option Expr)} {values : List Expr} {ms : List (ME × ME)} (h : JPs X E pos keys values ms) (h0 : keys ≠ []) (h15 : keys.length ≤ 15) : JD X E (.Dict keys values pos) (mDisp ms) :=
  PE.weak (pe_disp h.pps h.len.1 h.len.2 h0 h15) fun σv H Qv q => by
  obtain ⟨P, S, σ, Q, Ex, W, r, m, nq, nx⟩ := q
  intro p hp0
  have hp : ∀ b, (P b ∨ b = p) → P b ∨ H b = none := fun b h => h.imp id fun z => by rw [z]; exact hp0
  have r1 : RpS X.K (fun b => P b ∨ b = p) S (upd H p (.dK [])) σ σv := ⟨r.1, fun j z q => by
    obtain ⟨v, a, b⟩ := r.2 j z q
    exact ⟨v, a, rp_live hp (Evo.new hp0) b⟩⟩
  refine pairs_weak (hide W hp0) r1 m (fun ps qs S2 H2 W2 rp e2 q => ?_) (fun cl dd H2 x S2 W2 rx e2 q => ?_)
  · obtain ⟨ks, ws, hz, nd, hl, q⟩ := q
    obtain ⟨xs, rfl, hlen, rl⟩ := zipKy_of rp hz
    have hx : ks.length = xs.length := by rw [hlen]; exact rl.length
    obtain ⟨W3, e3, sD, hD, c, hn, hu⟩ := unhide (ob := .dK (mergeK [] (ks.zip xs))) W hp0 W2 e2
    refine ⟨hD, ks.zip xs, rfl, by rw [List.length_zip]; omega, ?_⟩
    rw [← hu, mergeK_zip [] (fun _ _ => rfl) nd hx, List.nil_append]
    exact nq p _ _ xs ks ws S2 W3 hn rfl hlen (rl.conv c) e3 q
  · obtain ⟨W3, e3, sD, hD, c, hn, hu⟩ := unhide (ob := .dK []) W hp0 W2 e2
    have e4 : Evo S H S2 H2 := fun a o n h => ⟨(e2 a o n (by rw [upd_ne (ne_of_none h hp0)]; exact h)).1, (e3 a o n h).2⟩
    have W4 : Wd X.K P S2 H2 := by
      have : upd (hdel H2 p) p (.dK []) = H2 := by
        rw [hu]
        funext a
        by_cases z : a = p
        · rw [z, upd_same, hD]
        · rw [upd_ne z]
      rw [← this]
      exact W3.new hn
    exact nx _ _ H2 x S2 W4 (rx.conv fun a o h n q => ⟨h, n, fun z => q (.inl z)⟩) e4 q
end
/-! ### methods, making -/
/-- a method that keeps its promise -/
def CalM (P : Program) (w : World) (K : Frg) (mg : Str → Option Value) (base : Heap) (C : Addr) (m : Str) (k : Nat) (ps : List Str) (n : Nat) (G : Fw) : Prop :=
  ∃ (f : Addr) (fd : FuncData), Cls K C ∧ Meth K C m f ∧ Binds K fd ps [] ∧ FnOk P w K mg base (L2.CX P w) k f fd ps (spOf K n G)
theorem CalM.imp {P : Program} {w : World} {K : Frg} {mg : Str → Option Value} {base : Heap} {C : Addr} {m : Str} {k : Nat} {ps : List Str} {n : Nat} {G G' : Fw} (c : CalM P w K mg base C m k ps n G) (h : ∀ ws S Q Ex, ws.length = n → G' ws S Q Ex → G ws S Q Ex) : CalM P w K mg base C m k ps n G' :=
  let ⟨f, fd, a, b, c, d⟩ := c; ⟨f, fd, a, b, c, FnOk.impW d h⟩
/-- a class whose __init__ keeps its promise -/
def CalI (P : Program) (w : World) (K : Frg) (mg : Str → Option Value) (base : Heap) (x : Str) (C : Addr) (k : Nat) (ps : List Str) (n : Nat) (G : Fw) : Prop :=
  ∃ (f : Addr) (fd : FuncData), mg x = some (.ref C) ∧ Mk K C f ∧ Binds K fd ps [] ∧ FnOk P w K mg base (L2.CX P w) k f fd ps (spOf K n G)
/-- a def within a class -/
def DfnM (K : Frg) (C : Addr) (m qual : Str) (st : Stmt) (ps : List Str) : Prop := ∃ (f : Addr) (fd : FuncData), Cls K C ∧ Meth K C m f ∧ L2.Fun K m qual st f fd ∧ Binds K fd ps []
def DfnI (K : Frg) (mg : Str → Option Value) (x : Str) (C : Addr) (qual : Str) (st : Stmt) (ps : List Str) : Prop := ∃ (f : Addr) (fd : FuncData), mg x = some (.ref C) ∧ Mk K C f ∧ L2.Fun K "__init__" qual st f fd ∧ Binds K fd ps []
section
variable {P : Program} {w : World} {K : Frg} {mg : Str → Option Value} {base : Heap}
theorem calM_of {C : Addr} {m qual : Str} {st : Stmt} {N ps : List Str} {k n : Nat} (D : DfnM K C m qual st ps) (Sc : FnScope N ps (defScope st)) (G : Fw) (hn : ps.length = n)
    (hbody : ∀ (f : Addr) (cdv : Value) (A : Around) (outer : List PySem.Env) (s : Shared) (H : Hp) (E : XK), Room k (A.deeper (envOfC qual (defScope st) s.heap.objs.size f cdv)) →
      ∃ m, JSs (cxOf (L2.CX P w) P w K mg base N qual (defScope st) f cdv A outer s H E) (fun c d _ H' => E c d H') (defBody st) m ∧
        ∀ (ws : List Dt) (S : Store) (Q : Dt → Store → Prop) (Ex : Exn → Store → Prop), ws.length = n → G ws S Q Ex →
          m ⟨fun _ S' => clo Q .non S', clo Q, fun _ _ => False, fun _ _ => False, fun x _ S' => clX Ex x S'⟩ (startW N.length ws) S) : CalM P w K mg base C m (k + 1) ps n G :=
  let ⟨f, fd, c, a, F, b⟩ := D
  ⟨f, fd, c, a, b, ok_w F Sc G hn (hbody f)⟩
theorem calI_of {C : Addr} {x qual : Str} {st : Stmt} {N ps : List Str} {k n : Nat} (D : DfnI K mg x C qual st ps) (Sc : FnScope N ps (defScope st)) (G : Fw) (hn : ps.length = n)
    (hbody : ∀ (f : Addr) (cdv : Value) (A : Around) (outer : List PySem.Env) (s : Shared) (H : Hp) (E : XK), Room k (A.deeper (envOfC qual (defScope st) s.heap.objs.size f cdv)) →
      ∃ m, JSs (cxOf (L2.CX P w) P w K mg base N qual (defScope st) f cdv A outer s H E) (fun c d _ H' => E c d H') (defBody st) m ∧
        ∀ (ws : List Dt) (S : Store) (Q : Dt → Store → Prop) (Ex : Exn → Store → Prop), ws.length = n → G ws S Q Ex →
          m ⟨fun _ S' => clo Q .non S', clo Q, fun _ _ => False, fun _ _ => False, fun x _ S' => clX Ex x S'⟩ (startW N.length ws) S) : CalI P w K mg base x C (k + 1) ps n G :=
  let ⟨f, fd, c, a, F, b⟩ := D
  ⟨f, fd, c, a, b, ok_w F Sc G hn (hbody f)⟩
theorem calM_false {C : Addr} {m qual : Str} {st : Stmt} {ps : List Str} {k n : Nat} (D : DfnM K C m qual st ps) : CalM P w K mg base C m k ps n (fun _ _ _ _ => False) :=
  let ⟨f, fd, c, a, F, b⟩ := D
  ⟨f, fd, c, a, b, ⟨fun _ _ _ _ ⟨_, _, _, _, _, _, _, _, g, _⟩ => g.elim, fun _ _ _ _ _ _ _ _ _ _ _ _ _ ⟨_, _, _, _, _, _, _, _, g, _⟩ => g.elim⟩⟩
theorem calI_false {C : Addr} {x qual : Str} {st : Stmt} {ps : List Str} {k n : Nat} (D : DfnI K mg x C qual st ps) : CalI P w K mg base x C k ps n (fun _ _ _ _ => False) :=
  let ⟨f, fd, c, a, F, b⟩ := D
  ⟨f, fd, c, a, b, ⟨fun _ _ _ _ ⟨_, _, _, _, _, _, _, _, g, _⟩ => g.elim, fun _ _ _ _ _ _ _ _ _ _ _ _ _ ⟨_, _, _, _, _, _, _, _, g, _⟩ => g.elim⟩⟩
end
/-- an instance of the class C0 with the fields ns0 -/
def isIns (C0 : Addr) (ns0 : List Str) (w : Dt) (S : Store) (Q : Prop) : Prop := match w with
  | .ins C ns ws => C = C0 ∧ ns = ns0 ∧ Q
  | .ref a => match S a with
    | some (.ins C ns ws) => C = C0 ∧ ns = ns0 ∧ Q
    | _ => False
  | _ => False
def mMethod (C0 : Addr) (ns0 : List Str) (n : Nat) (G : Fw) (mo : ME) (ma : MA) : ME := fun σ S Q Ex => mo σ S (fun w S1 => isIns C0 ns0 w S1 (ma σ S1 (fun ws S2 => ws.length + 1 = n ∧ G (w :: ws) S2 Q Ex) Ex)) Ex
def mMakeR (C0 : Addr) (n : Nat) (G : Fw) (ma : MA) : ME := fun σ S Q Ex => ma σ S (fun ws S1 => ws.length + 1 = n ∧ ∀ p, S1 p = none → G (.ref p :: ws) (sup S1 p (.ins C0 [] [])) (fun w S2 => w = .non ∧ Q (.ref p) S2) Ex) Ex
/-- made, and changed no more -/
def frzQ (Q : Dt → Store → Prop) (w : Dt) (S : Store) : Prop := match w with
  | .ref a => match S a with
    | some (.ins C ns ws) => Q (.ins C ns ws) (sdel S a)
    | _ => False
  | _ => False
def mFrzI (me : ME) : ME := fun σ S Q Ex => me σ S (frzQ Q) Ex
theorem sdel_sup {S : Store} {a : Addr} {o : Ob} (h : S a = none) : sdel (sup S a o) a = S := by
  funext b
  unfold sdel sup
  by_cases e : b = a
  · rw [if_pos e, e, h]
  · rw [if_neg e, if_neg e]
section
variable {X : Cx} {E : WX}
theorem je_frzI {e : Expr} {me : ME} (he : JE X E e me) : JE X E e (mFrzI me) := PE.weak he fun σv H Qv q => by
  obtain ⟨P, S, σ, Q, Ex, W, r, m, nq, nx⟩ := q
  refine ⟨P, S, σ, _, Ex, W, r, m, fun v H1 w S1 W1 r1 e1 m1 => ?_, nx⟩
  unfold frzQ at m1
  split at m1
  · rename_i a
    split at m1
    · rename_i C ns ws ea
      have k := Wk.freezeI ea
      exact nq v H1 _ _ (W1.sub k.1) (k.2 X.K P H1 v W1 r1) (e1.sub k.1) m1
    · exact m1.elim
  · exact m1.elim
theorem isIns_of {C0 : Addr} {ns0 : List Str} {w : Dt} {S : Store} {Q : Prop} {K : Frg} {P : Hid} {H : Hp} {v : V} (W : Wd K P S H) (r : Rp K P S H w v) (h : isIns C0 ns0 w S Q) : (∃ a dx xs, v = .ref a ∧ H a = some (.ins C0 dx (ns0.zip xs))) ∧ Q := by
  unfold isIns at h
  split at h
  · obtain ⟨rfl, rfl, q⟩ := h
    unfold Rp at r
    obtain ⟨a, dx, xs, rfl, fz, hz, rl⟩ := r
    exact ⟨⟨a, dx, xs, rfl, fz.1⟩, q⟩
  · rename_i a
    split at h
    · rename_i C ns ws ea
      obtain ⟨rfl, rfl, q⟩ := h
      rw [rp_ref] at r
      obtain ⟨dx, xs, eh, hz, rl⟩ := W.sim a _ ea
      exact ⟨⟨a, dx, xs, r, eh⟩, q⟩
    · exact h.elim
  · exact h.elim
theorem je_method {C0 : Addr} {ns0 : List Str} {m : Str} {k n : Nat} {ps : List Str} {G : Fw} {o e : Expr} {es : List Expr} {mo : ME} {ma : MA} {apos pos : Pos} {pl : Sem Bool} (c : CalM X.prog X.w X.K X.mg X.base C0 m k ps n G) (hno : m ∉ ns0) (hr : Room k X.A) (tk : Takes X E) (ho : JE X E o mo) (ha : JA X E (e :: es) ma)
    (hst : starEach (e :: es) X.env = (false, eval e X.env) :: starEach es X.env := by rfl) (hpl : (backTo pos (starEach es X.env)).any (·.1) = false := by rfl)
    (ht : eval (.Call (.Attribute o m apos) (e :: es) [] pos) X.env = (do
      let ov ← eval o X.env
      standAt apos.atName
      let (f, first) ← holding [ov] (getMethod ov m pl)
      callWith pos f first (backTo pos (starEach (e :: es) X.env)) (backToKw pos (keywordEach [] X.env))) := by rfl) :
    JE X E (.Call (.Attribute o m apos) (e :: es) [] pos) (mMethod C0 ns0 n G mo ma) := by
  obtain ⟨f, fd, cl, hm, hb, F⟩ := c
  refine PE.weak (pe_methD ho cl hm F hr hb (fun σ => passAt tk σ) ha hst hpl ht) fun σv H Qv q => ?_
  obtain ⟨P, S, σ, Q, Ex, W, r, m, nq, nx⟩ := q
  refine ⟨P, S, σ, _, Ex, W, r, m, fun v H1 w S1 W1 r1 e1 m1 => ?_, nx⟩
  obtain ⟨⟨a, dx, xs, rfl, eh⟩, m1⟩ := isIns_of W1 r1 m1
  refine ⟨a, dx, _, rfl, eh, zip_no hno, P, S1, σ, _, Ex, W1, r.mono e1, m1, fun vs H2 ws S2 W2 r2 e2 m2 => ?_, nx.after e1⟩
  exact ⟨by rw [List.length_cons, ← r2.length]; exact m2.1, P, S2, w :: ws, Q, Ex, W2, RpL.cons (r1.mono e2) r2, m2.2, nq.after (e1.trans e2), nx.after (e1.trans e2)⟩
theorem je_method0 {C0 : Addr} {ns0 : List Str} {m : Str} {k n : Nat} {ps : List Str} {G : Fw} {o : Expr} {mo : ME} {apos pos : Pos} {pl : Sem Bool} (c : CalM X.prog X.w X.K X.mg X.base C0 m k ps n G) (hno : m ∉ ns0) (hr : Room k X.A) (tk : Takes X E) (ho : JE X E o mo)
    (ht : eval (.Call (.Attribute o m apos) [] [] pos) X.env = (do
      let ov ← eval o X.env
      standAt apos.atName
      let (f, first) ← holding [ov] (getMethod ov m pl)
      callWith pos f first (backTo pos (starEach [] X.env)) (backToKw pos (keywordEach [] X.env))) := by rfl) :
    JE X E (.Call (.Attribute o m apos) [] [] pos) (mMethod C0 ns0 n G mo mNil) := by
  obtain ⟨f, fd, cl, hm, hb, F⟩ := c
  refine PE.weak (pe_methD0 ho cl hm F hr hb (fun σ => passAt tk σ) ht) fun σv H Qv q => ?_
  obtain ⟨P, S, σ, Q, Ex, W, r, m, nq, nx⟩ := q
  refine ⟨P, S, σ, _, Ex, W, r, m, fun v H1 w S1 W1 r1 e1 m1 => ?_, nx⟩
  obtain ⟨⟨a, dx, xs, rfl, eh⟩, m1⟩ := isIns_of W1 r1 m1
  refine ⟨a, dx, _, rfl, eh, zip_no hno, ?_⟩
  exact ⟨by rw [List.length_cons]; exact m1.1, P, S1, [w], Q, Ex, W1, RpL.cons r1 RpL.nil, m1.2, nq.after e1, nx.after e1⟩
theorem make_weak {C0 : Addr} {n : Nat} {G : Fw} {P : Hid} {S1 : Store} {H1 : Hp} {ws : List Dt} {vs : List V} {Q : Dt → Store → Prop} {Qv : VK} {Ex : Exn → Store → Prop} {Ev : XK} (W1 : Wd X.K P S1 H1) (r1 : RpL X.K P S1 H1 ws vs)
    (m1 : ws.length + 1 = n ∧ ∀ p, S1 p = none → G (.ref p :: ws) (sup S1 p (.ins C0 [] [])) (fun w S2 => w = .non ∧ Q (.ref p) S2) Ex) (nq : NQ X.K P S1 H1 Q Qv) (nx : NX X.K P S1 H1 Ex Ev) :
    ∀ x dx, H1 x = none → H1 dx = none → dx ≠ x → spOf X.K n G (.ref x :: vs) (upd (upd H1 dx (.own x)) x (.ins C0 dx [])) (fun v H2 => v = .non ∧ Qv (.ref x) H2) Ev := by
  intro x dx hx hd hne
  have W2 : Wd X.K P S1 (upd H1 dx (.own x)) := W1.new hd
  have hx2 : upd H1 dx (.own x) x = none := by rw [upd_ne (Ne.symm hne)]; exact hx
  have e2 : Evo S1 H1 S1 (upd H1 dx (.own x)) := Evo.new hd
  have e3 : Evo S1 (upd H1 dx (.own x)) (sup S1 x (.ins C0 [] [])) (upd (upd H1 dx (.own x)) x (.ins C0 dx [])) := Evo.alloc hx2
  have W3 : Wd X.K P (sup S1 x (.ins C0 [] [])) (upd (upd H1 dx (.own x)) x (.ins C0 dx [])) := W2.put (W2.free hx2).2 (fun _ => hx2) ⟨dx, [], upd_same, rfl, RpL.nil⟩
  have e := e2.trans e3
  refine ⟨by rw [List.length_cons, ← r1.length]; exact m1.1, P, _, .ref x :: ws, _, Ex, W3, RpL.cons rpRef (r1.mono e), m1.2 x (W1.free hx).1, fun v H' w S' W' r' e' q => ?_, nx.after e⟩
  obtain ⟨rfl, q⟩ := q
  rw [rp_non] at r'
  exact ⟨r', nq (.ref x) H' (.ref x) S' W' rpRef (e.trans e') q⟩
theorem je_make {C0 : Addr} {x : Str} {k n : Nat} {ps : List Str} {G : Fw} {e : Expr} {es : List Expr} {ma : MA} {p pos : Pos} (c : CalI X.prog X.w X.K X.mg X.base x C0 k ps n G) (hr : Room (k + 1) X.A) (tk : Takes X E) (hg : Gl X x) (ha : JA X E (e :: es) ma)
    (hdb : (x == ("__debug__" : Str)) = false := by decide) (he : starEach (e :: es) X.env = (false, eval e X.env) :: starEach es X.env := by rfl) (hpl : (backTo pos (starEach es X.env)).any (·.1) = false := by rfl) :
    JE X E (.Call (.Name x p) (e :: es) [] pos) (mMakeR C0 n G ma) := by
  obtain ⟨f, fd, hm, M, hb, F⟩ := c
  refine PE.weak (pe_makeS M F hr hg hm hb (fun σ => passAt tk σ) ha hdb he hpl) fun σv H Qv q => ?_
  obtain ⟨P, S, σ, Q, Ex, W, r, m, nq, nx⟩ := q
  exact ⟨P, S, σ, _, Ex, W, r, m, fun vs H1 ws S1 W1 r1 e1 m1 => make_weak W1 r1 m1 (nq.after e1) (nx.after e1), nx⟩
theorem je_make0 {C0 : Addr} {x : Str} {k n : Nat} {ps : List Str} {G : Fw} {p pos : Pos} (c : CalI X.prog X.w X.K X.mg X.base x C0 k ps n G) (hr : Room (k + 1) X.A) (tk : Takes X E) (hg : Gl X x)
    (hdb : (x == ("__debug__" : Str)) = false := by decide) : JE X E (.Call (.Name x p) [] [] pos) (mMakeR C0 n G mNil) := by
  obtain ⟨f, fd, hm, M, hb, F⟩ := c
  refine PE.weak (pe_makeS0 M F hr hg hm hb (fun σ => passAt tk σ) hdb) fun σv H Qv q => ?_
  obtain ⟨P, S, σ, Q, Ex, W, r, m, nq, nx⟩ := q
  exact make_weak W RpL.nil m nq nx
end
-- what the top has written
section
variable {K : Frg} {h : Heap} {mg : Str → Option Value}
theorem dfnM_mk {C : Addr} {m qual : Str} {st : Stmt} {ps : List Str} {f : Addr} {oc : Value} {od an : Option Addr} {osl : Array (Option Value)} {kV doc pm cdv ct : Value} (cl : Cls K C) (a : PySem.W.findIn K (.ref C) m = some (some (.ref f))) (fn : PySem.W.isFn K (.ref f) = true)
    (l : K.lookup f = some ⟨oc, od, .func (PySem.W.fnOf m qual (defArgs st) (defBody st) (defScope st) .none kV doc pm an cdv ct), osl⟩) (c : PySem.W.codeIn K cdv qual = true) (k : PySem.W.keepIn K (.ref f) = true)
    (hb : ∀ (kV doc pm : Value) (an : Option Addr) (cdv ct : Value) (us : List Value), us.length = ps.length → bindArgs (PySem.W.fnOf m qual (defArgs st) (defBody st) (defScope st) .none kV doc pm an cdv ct) ⟨us, []⟩ = pure (ps.zip us)) : DfnM K C m qual st ps :=
  ⟨f, _, cl, ⟨a, fn, k⟩, fun_mk l c k, (fun_mk (st := st) l c k).binds hb⟩
theorem dfnI_mk {C : Addr} {x qual : Str} {st : Stmt} {ps : List Str} {f : Addr} {oc : Value} {od an : Option Addr} {osl : Array (Option Value)} {kV doc pm cdv ct : Value} (X : K.In h) (G : h.Ns mainGlobals mg) (ac : PySem.W.nsIn K mainGlobals x = some (some (.ref C))) (mk : PySem.W.makesIn K C = true) (kc : PySem.W.keepIn K (.ref C) = true)
    (a : PySem.W.findIn K (.ref C) "__init__" = some (some (.ref f))) (fn : PySem.W.isFn K (.ref f) = true)
    (l : K.lookup f = some ⟨oc, od, .func (PySem.W.fnOf "__init__" qual (defArgs st) (defBody st) (defScope st) .none kV doc pm an cdv ct), osl⟩) (c : PySem.W.codeIn K cdv qual = true) (k : PySem.W.keepIn K (.ref f) = true)
    (hb : ∀ (kV doc pm : Value) (an : Option Addr) (cdv ct : Value) (us : List Value), us.length = ps.length → bindArgs (PySem.W.fnOf "__init__" qual (defArgs st) (defBody st) (defScope st) .none kV doc pm an cdv ct) ⟨us, []⟩ = pure (ps.zip us)) : DfnI K mg x C qual st ps :=
  ⟨f, _, PySem.W.mg_of X G ac, ⟨mk, a, fn, kc⟩, fun_mk l c k, (fun_mk (st := st) l c k).binds hb⟩
end
end Dn

/-! enumerate and zip over lists, tuples and texts, in any mixture -/
namespace Dn
open PySem PySem.Spec PyProof.Rows L2
theorem meets_enum1 {v : Value} {o : Obj} {H : Heap → Prop} (B : Begins v o H) :
    Meets (Builtin.«enumerate.__new__» ⟨[.type "enumerate", v], []⟩) (fun _ R s => H s.heap ∧
      R (.ok (.ret (.ref (s.heap.push o).objs.size))) { s with heap := (s.heap.push o).push { cls := .type "enumerate", data := .fields #[.none, .bool false, .ref s.heap.objs.size, rawInt 0, .none, .none] } }) :=
  .of_wp fun prog w A R s h => by
    obtain ⟨hp, g, d, tk, os⟩ := s; obtain ⟨h1, h⟩ := h
    have hsub := sub_enumerate
    have q1 : ∀ {A' : Around} {E : Value → Shared → Prop} {Q : Value → Shared → Prop}, Q (.ref hp.objs.size) ⟨hp.push o, g, d, tk, os⟩ → wpAny (model prog w) A' (pyIter v) Q E ⟨hp, g, d, tk, os⟩ :=
      fun q => B.iter prog w _ _ ⟨hp, g, d, tk, os⟩ _ h1 q
    wp_walk using q1
    refine wpAny_stack_any fun st => wpAny_pure ?_
    split
    · rename_i c _ _ _ _ _
      cases (c == Value.type "enumerate")
      · wp_walk using q1
        exact ⟨_, rfl, h⟩
      · wp_walk using q1
        exact ⟨_, rfl, h⟩
    · wp_walk using q1
      exact ⟨_, rfl, h⟩
theorem enum1_begins {prog : Program} {w : World} {A : Around} {E : Value → Shared → Prop} {s : Shared} {v : Value} {o : Obj} {H : Heap → Prop} {Q : Value → Shared → Prop} (B : Begins v o H) (h1 : H s.heap)
    (h : ∀ h', IsEnum h' (s.heap.objs.size + 1) s.heap.objs.size 0 .none → h'.get? s.heap.objs.size = some o → h'.objs.size = s.heap.objs.size + 2 →
      (∀ b o, s.heap.get? b = some o → h'.get? b = some o) → Q (.ref (s.heap.objs.size + 1)) { s with heap := h' }) :
    wpAny (model prog w) A (call (.type "enumerate") [v]) Q E s := by
  refine callType_new F.called_enumerate (by decide) (F.typeCall_enumerate_1 _) (F.newCall_enumerate_1 _) (fun obj => F.args_object_init_2 obj _) F.entry_enumerate_new
    (meets_enum1 B) ⟨h1, ?_⟩
  have hz : (s.heap.push o).objs.size = s.heap.objs.size + 1 := Heap.size_push ..
  show _ ∧ _
  rw [hz]
  have he : IsEnum ((s.heap.push o).push { cls := .type "enumerate", data := .fields #[.none, .bool false, .ref s.heap.objs.size, rawInt 0, .none, .none] }) (s.heap.objs.size + 1) s.heap.objs.size 0 .none := by
    have := Heap.get?_push_size (s.heap.push o) (o := { cls := .type "enumerate", data := .fields #[.none, .bool false, .ref s.heap.objs.size, rawInt 0, .none, .none] }) rfl
    rw [hz] at this; exact this
  refine ⟨⟨_, he, rfl⟩, h _ he (Heap.get?_push_of_some _ (Heap.get?_push_size _ B.free)) (by rw [Heap.size_push, hz]) fun b o x => Heap.get?_push_of_some _ (Heap.get?_push_of_some _ x)⟩
/-- what is walked -/
inductive Src where
  | lst (a : Addr) | tup (a : Addr) | str (x : Str) (t : Tok)
namespace Src
def val : Src → Value
  | .lst a => .ref a
  | .tup a => .ref a
  | .str x t => .str x t
def At (K : Frg) (H : Hp) : Src → List V → Prop
  | .lst a, xs => SqL K H a xs
  | .tup a, xs => SqT K H a xs
  | .str x _, xs => xs = x.cps.toList.map fun c => V.str ⟨#[c]⟩
def tn (h : Heap) : Src → Addr → Nat → Prop
  | .lst a, it, i => h.IsListIter it a i ∧ a ≠ it
  | .tup a, it, i => h.IsTupleIter it a i ∧ a ≠ it
  | .str x t, it, i => h.IsStrIter it (strIterType x) x t i
def fp : Src → Addr → List Addr
  | .lst a, it => [it, a]
  | .tup a, it => [it, a]
  | .str _ _, it => [it]
def obj : Src → Obj
  | .lst a => { cls := .type "list_iterator", data := .fields #[.ref a, .int 0 0] }
  | .tup a => { cls := .type "tuple_iterator", data := .fields #[.ref a, .int 0 0] }
  | .str x t => { cls := .type (strIterType x), data := .fields #[.str x t, .int 0 0] }
theorem mem : ∀ {k : Src} {it : Addr}, it ∈ k.fp it
  | .lst _, _ => List.mem_cons_self
  | .tup _, _ => List.mem_cons_self
  | .str _ _, _ => List.mem_cons_self
/-- the one address beside the iterator's -/
def addr : Src → Option Addr
  | .lst a => some a
  | .tup a => some a
  | .str _ _ => none
theorem notIn {k : Src} {it e : Addr} (h1 : e ≠ it) (h2 : ∀ a, k.addr = some a → e ≠ a) : e ∉ k.fp it := by
  cases k <;> simp [fp, h1] <;> exact h2 _ rfl
theorem tn.at {h h' : Heap} {k : Src} {it : Addr} {i : Nat} (t : k.tn h it i) (e : ∀ o, h.get? it = some o → h'.get? it = some o) : k.tn h' it i := by
  cases k with
  | lst a => exact ⟨Heap.IsListIter.at t.1 e, t.2⟩
  | tup a => exact ⟨Heap.IsTupleIter.at t.1 e, t.2⟩
  | str x u =>
    obtain ⟨o, ho, hc, hd⟩ := (show h.IsStrIter it (strIterType x) x u i from t)
    exact ⟨o, e o ho, hc, hd⟩
theorem tn.live {h : Heap} {k : Src} {it : Addr} {i : Nat} (t : k.tn h it i) : ∃ o, h.get? it = some o ∧ ∀ v, o.data ≠ .cell v := by
  cases k with
  | lst a => obtain ⟨⟨o, e, _, d⟩, _⟩ := t; exact ⟨o, e, fun v q => by rw [d] at q; cases q⟩
  | tup a => obtain ⟨⟨o, e, _, d⟩, _⟩ := t; exact ⟨o, e, fun v q => by rw [d] at q; cases q⟩
  | str x u =>
    obtain ⟨o, e, _, d⟩ := (show h.IsStrIter it (strIterType x) x u i from t)
    exact ⟨o, e, fun v q => by rw [d] at q; cases q⟩
section
variable {X : Cx} {pins : List (Addr × Obj)} {σ : L2.St} {H : Hp} {s : Shared} {k : Src} {xs ys : List V}
theorem At.inj (I : L2.Inv X pins σ H s) (h1 : k.At X.K H xs) (h2 : k.At X.K H ys) : xs = ys := by
  cases k with
  | lst a => exact I.list_inj h1 h2
  | tup a => exact I.tuple_inj h1 h2
  | str x t => exact Eq.trans h1 (Eq.symm h2)
theorem vals_of {xs : List V} {its : List Value} (rv : Vals xs its) {j : Nat} {u : Value} (h : its.toArray[j]? = some u) : ∃ v, xs[j]? = some v ∧ RelV v u := by
  have h' : its[j]? = some u := by simpa using h
  have hl := (List.getElem?_eq_some_iff.mp h').1
  have hx : xs[j]? = some (xs[j]'(by rw [rv.length]; exact hl)) := List.getElem?_eq_getElem _
  obtain ⟨u', hu, ru⟩ := rv.get hx
  rw [h'] at hu
  cases hu
  exact ⟨_, hx, ru⟩
theorem draws (hc : X.calm = true) (I : L2.Inv X pins σ H s) (h : k.At X.K H xs) {it : Addr} {i : Nat} (ht : k.tn s.heap it i) :
    ∃ P St, Draws X.prog X.w X.A.in1 it (k.fp it) xs.length P St ∧ St i s.heap ∧ (∀ j h', St j h' → k.tn h' it j) ∧ ∀ j u, P j u → ∃ v, xs[j]? = some v ∧ RelV v u := by
  have hh : X.A.in1.handled = none := I.ok.hd hc
  cases k with
  | lst a =>
    obtain ⟨its, rv, p, _⟩ := I.list h
    have D := Draws.list (prog := X.prog) (w := X.w) hh it a ht.2 its.toArray
    rw [show its.toArray.size = xs.length by rw [rv.length]; simp] at D
    exact ⟨_, _, D, ⟨ht.1, p.isList⟩, fun j h' z => ⟨z.1, ht.2⟩, fun j u z => vals_of rv z⟩
  | tup a =>
    obtain ⟨its, rv, p, _⟩ := I.tuple h
    have D := Draws.tuple (prog := X.prog) (w := X.w) hh it a ht.2 its.toArray
    rw [show its.toArray.size = xs.length by rw [rv.length]; simp] at D
    exact ⟨_, _, D, ⟨ht.1, p⟩, fun j h' z => ⟨z.1, ht.2⟩, fun j u z => vals_of rv z⟩
  | str x t =>
    have e : xs = x.cps.toList.map fun c => V.str ⟨#[c]⟩ := h
    have D := Draws.text (prog := X.prog) (w := X.w) hh it x t
    rw [show x.cps.size = xs.length by rw [e]; simp] at D
    refine ⟨_, _, D, ht, fun j h' z => z, fun j u z => ?_⟩
    obtain ⟨c, t', ec, rfl⟩ := z
    exact ⟨.str ⟨#[c]⟩, by rw [e, List.getElem?_map, Array.getElem?_toList, ec]; rfl, ⟨t', rfl⟩⟩
theorem begins (I : L2.Inv X pins σ H s) (h : k.At X.K H xs) : ∃ F, Begins k.val k.obj F ∧ F s.heap := by
  cases k with
  | lst a => obtain ⟨its, _, p, _⟩ := I.list h; exact ⟨_, begins_list a its.toArray, p.isList⟩
  | tup a => obtain ⟨its, _, p, _⟩ := I.tuple h; exact ⟨_, begins_tuple a its.toArray, p⟩
  | str x t => exact ⟨_, begins_text x t, trivial⟩
theorem below (I : L2.Inv X pins σ H s) (h : k.At X.K H xs) {a : Addr} (ha : k.addr = some a) : a < s.heap.objs.size := by
  cases k with
  | lst b => rw [← Option.some.inj (show some b = some a from ha)]; obtain ⟨its, _, p, _⟩ := I.list h; obtain ⟨o, e, _⟩ := p.isList; exact Heap.lt_size e
  | tup b => rw [← Option.some.inj (show some b = some a from ha)]; obtain ⟨its, _, p, _⟩ := I.tuple h; obtain ⟨o, e, _⟩ := (show s.heap.IsTuple b its.toArray from p); exact Heap.lt_size e
  | str x t => cases ha
theorem tn0 {h : Heap} {it : Addr} (e : h.get? it = some k.obj) (ne : ∀ a, k.addr = some a → a ≠ it) : k.tn h it 0 := by
  cases k with
  | lst a => exact ⟨⟨_, e, rfl, rfl⟩, ne a rfl⟩
  | tup a => exact ⟨⟨_, e, rfl, rfl⟩, ne a rfl⟩
  | str x t => exact ⟨_, e, rfl, rfl⟩
end
end Src
/-! ### enumerate -/
def ItE (K : Frg) (k : Src) (n : Nat) : It :=
  ⟨fun i H => i < n ∧ ∃ xs : List V, k.At K H xs ∧ xs.length = n,
    fun i H v H' => ∃ T x, v = .ref T ∧ H T = none ∧ H' = upd H T (.tup [.int (i : Nat), x]) ∧ ∀ xs, k.At K H xs → xs[i]? = some x,
    fun i H => n ≤ i ∧ ∃ xs : List V, k.At K H xs ∧ xs.length = n⟩
theorem turn_enumK {P : Program} {w : World} {K : Frg} {elts : List Expr} {kk : Nat} {tpos : Pos} (k : Src) (n : Nat) (e it : Addr) (hef : e ∉ k.fp it) (hne : e ≠ it) :
    Turn P w K (.Tuple elts kk tpos) (ItE K k n) [e, it] e (fun i h => i ≤ n ∧ (∃ old, IsEnum h e it ((i : Nat) : Int) old) ∧ k.tn h it i) where
  mem := by simp
  obj := fun i h st b hb => by
    obtain ⟨_, ⟨old, he⟩, ht⟩ := st
    have e' : b = e ∨ b = it := by simpa using hb
    rcases e' with z | z
    · rw [z]; exact ⟨_, he, fun v q => nomatch q⟩
    · rw [z]; exact ht.live
  keep := fun i h h' st k' => let ⟨hi, ⟨old, he⟩, ht⟩ := st; ⟨hi, ⟨old, k' e (by simp) _ he⟩, ht.at fun o q => k' it (by simp) o q⟩
  item := by
    intro X hP hw hK hc i pins s σ H E I hf st hg
    subst hP hw hK
    obtain ⟨hin, ⟨old, he⟩, ht⟩ := st
    obtain ⟨hlt, xs, hat, hlen⟩ := hg
    obtain ⟨P, St, D, hst, hto, hP⟩ := Src.draws hc I hat ht
    have hel : e < s.heap.objs.size := Heap.lt_size he
    have hil : it < s.heap.objs.size := by obtain ⟨o, q, _⟩ := ht.live; exact Heap.lt_size q
    refine wpAny_pyNext_enum_itemC D he hst (by omega) hne hef fun u h' tk hPu ho hit' hT hsz hk => ?_
    obtain ⟨x, hx, ru⟩ := hP i u hPu
    refine ⟨_, rfl, wpAny_letOwnedTupleGo_enum (s := { s with heap := h', toks := tk + 1 }) ho fun h'' he' sb => ?_⟩
    have hT2 : h''.get? s.heap.objs.size = some { cls := .type "tuple", data := .seq #[.int i tk, u] } := (sb.2 _ (Nat.ne_of_gt hel)).trans hT
    have new : ObjOk X.prog X.w (upd H s.heap.objs.size (.tup [.int (i : Nat), x])) h'' s.heap.objs.size (.tup [.int (i : Nat), x]) :=
      ⟨by show 2 ≤ sizeLine; decide, [.int i tk, u], .cons ⟨_, rfl⟩ (.cons ru .nil), ⟨_, hT2, rfl, _, rfl⟩⟩
    have I1 : L2.Inv X pins σ (upd H s.heap.objs.size (.tup [.int (i : Nat), x])) { s with heap := h'', toks := tk + 1 } :=
      I.turnedNew (ch := [e, it]) (fun b ob hb q => (sb.2 b (fun z => hb (by simp [z]))).trans (hk b ob (fun z => hb (by simp [z])) (fun z => hb (by simp [z])) q)) hf (Nat.le_refl _) new
    refine ⟨.ref s.heap.objs.size, _, I1, rfl, ⟨_, x, rfl, I.hok.fresh (Nat.le_refl _), rfl, fun ys hy => by rw [Src.At.inj I hy hat]; exact hx⟩, ⟨hlt, ⟨u, ?_⟩, (hto _ _ hit').at fun o q => (sb.2 it (Ne.symm hne)).trans q⟩, fun b hb => ?_⟩
    · have e1 : ((i + 1 : Nat) : Int) = (i : Int) + 1 := by omega
      rw [e1]; exact he'
    · have hb' : b < s.heap.objs.size := by
        have e' : b = e ∨ b = it := by simpa using hb
        rcases e' with z | z
        · rw [z]; exact hel
        · rw [z]; exact hil
      rw [upd_ne (Nat.ne_of_lt hb')]
      exact (hf b hb).1
  done := by
    intro X hP hw hK hc i pins s σ H E I hf st hg
    subst hP hw hK
    obtain ⟨hin, ⟨old, he⟩, ht⟩ := st
    obtain ⟨hle, xs, hat, hlen⟩ := hg
    obtain ⟨P, St, D, hst, hto, hP⟩ := Src.draws hc I hat ht
    obtain ⟨f0, f1, f2, f3, f4, f5⟩ := hf it (by simp)
    have e1 : i = xs.length := by omega
    rw [e1] at hst he
    exact wpAny_pyNext_enum_endD D he hst fun h' eb => ⟨rfl, I.turned (t' := s.toks) (fun b o hb q => eb b o hb q) f0 f1 f3 f4 f5⟩
  self := fun A i s Q E st h => let ⟨_, ⟨_, he⟩, _⟩ := st; wpAny_pyIter_enum he h
/-! ### zip -/
def ItZ (K : Frg) (k1 k2 : Src) (n1 n2 : Nat) : It :=
  ⟨fun i H => i < n1 ∧ i < n2 ∧ ∃ xs ys : List V, k1.At K H xs ∧ k2.At K H ys ∧ xs.length = n1 ∧ ys.length = n2,
    fun i H v H' => ∃ T x y, v = .ref T ∧ H T = none ∧ H' = upd H T (.tup [x, y]) ∧ (∀ xs, k1.At K H xs → xs[i]? = some x) ∧ ∀ ys, k2.At K H ys → ys[i]? = some y,
    fun i H => (n1 ≤ i ∨ n2 ≤ i) ∧ ∃ xs ys : List V, k1.At K H xs ∧ k2.At K H ys ∧ xs.length = n1 ∧ ys.length = n2⟩
theorem turn_zipK {P : Program} {w : World} {K : Frg} {elts : List Expr} {kk : Nat} {tpos : Pos} (k1 k2 : Src) (n1 n2 : Nat) {z TI TO i1 i2 : Addr} (D : ZipSep2 z TI TO i1 i2 (k1.fp i1) (k2.fp i2)) :
    Turn P w K (.Tuple elts kk tpos) (ItZ K k1 k2 n1 n2) [z, TI, TO, i1, i2] z (fun i h => (i ≤ n1 ∧ i ≤ n2) ∧ IsZip h z TI TO .none ∧ IsTupOf2 h TI (.ref i1) (.ref i2) ∧ (∃ x y, IsTupOf2 h TO x y) ∧ k1.tn h i1 i ∧ k2.tn h i2 i) where
  mem := by simp
  obj := fun i h st c hc => by
    obtain ⟨_, hz, hTI, ⟨x, y, hTO⟩, h1, h2⟩ := st
    have e' : c = z ∨ c = TI ∨ c = TO ∨ c = i1 ∨ c = i2 := by simpa using hc
    rcases e' with q | q | q | q | q
    · rw [q]; exact ⟨_, hz, fun v q => nomatch q⟩
    · rw [q]; exact ⟨_, hTI, fun v q => nomatch q⟩
    · rw [q]; exact ⟨_, hTO, fun v q => nomatch q⟩
    · rw [q]; exact h1.live
    · rw [q]; exact h2.live
  keep := fun i h h' st k => by
    obtain ⟨hi, hz, hTI, ⟨x, y, hTO⟩, h1, h2⟩ := st
    exact ⟨hi, k z (by simp) _ hz, k TI (by simp) _ hTI, ⟨x, y, k TO (by simp) _ hTO⟩, h1.at fun o q => k i1 (by simp) o q, h2.at fun o q => k i2 (by simp) o q⟩
  item := by
    intro X hP hw hK hc i pins s σ H E I hf st hg
    subst hP hw hK
    obtain ⟨hin, hz, hTI, ⟨x0, y0, hTO⟩, h1, h2⟩ := st
    obtain ⟨l1, l2, xs, ys, hqx, hqy, lx, ly⟩ := hg
    obtain ⟨P1, St1, D1, st1, to1, hP1⟩ := Src.draws hc I hqx h1
    obtain ⟨P2, St2, D2, st2, to2, hP2⟩ := Src.draws hc I hqy h2
    have hzl : z < s.heap.objs.size := Heap.lt_size hz
    refine wpAny_pyNext_zipD2_item D D1 D2 hz hTI hTO st1 st2 (by omega) (by omega) fun u u2 h' tk p1 p2 z' TO' d1 d2 hT hsz hk => ?_
    obtain ⟨x, hx, ru⟩ := hP1 i u p1
    obtain ⟨y, hy, ru2⟩ := hP2 i u2 p2
    refine ⟨_, rfl, wpAny_letOwnedTupleGo_zip (s := { s with heap := h', toks := tk }) z' fun h'' z'' sb => ?_⟩
    have hT2 : h''.get? s.heap.objs.size = some { cls := .type "tuple", data := .seq #[u, u2] } := (sb.2 _ (Nat.ne_of_gt hzl)).trans hT
    have new : ObjOk X.prog X.w (upd H s.heap.objs.size (.tup [x, y])) h'' s.heap.objs.size (.tup [x, y]) :=
      ⟨by show 2 ≤ sizeLine; decide, [u, u2], .cons ru (.cons ru2 .nil), ⟨_, hT2, rfl, _, rfl⟩⟩
    have I1 : L2.Inv X pins σ (upd H s.heap.objs.size (.tup [x, y])) { s with heap := h'', toks := tk } :=
      I.turnedNew (t' := tk) (ch := [z, TI, TO, i1, i2]) (fun c o hb q => (sb.2 c (fun q' => hb (by simp [q']))).trans (hk c o (fun q' => hb (by simp [q'])) (fun q' => hb (by simp [q'])) (fun q' => hb (by simp [q'])) (fun q' => hb (by simp [q'])) q)) hf (Nat.le_refl _) new
    refine ⟨.ref s.heap.objs.size, _, I1, rfl, ⟨_, x, y, rfl, I.hok.fresh (Nat.le_refl _), rfl, fun l hl => by rw [Src.At.inj I hl hqx]; exact hx, fun l hl => by rw [Src.At.inj I hl hqy]; exact hy⟩, ⟨⟨l1, l2⟩, z'', ?_, ⟨u, u2, ?_⟩, ?_, ?_⟩, fun c hcm => ?_⟩
    · exact (sb.2 _ D.TIz).trans (hk _ _ D.TIz D.TITO D.TIi1 D.TIi2 hTI)
    · exact (sb.2 _ D.TOz).trans TO'
    · exact (to1 _ _ d1).at fun o q => (sb.2 _ (Ne.symm D.zi1)).trans q
    · exact (to2 _ _ d2).at fun o q => (sb.2 _ (Ne.symm D.zi2)).trans q
    · have hlt : c < s.heap.objs.size := by
        have e' : c = z ∨ c = TI ∨ c = TO ∨ c = i1 ∨ c = i2 := by simpa using hcm
        rcases e' with q | q | q | q | q
        · rw [q]; exact hzl
        · rw [q]; exact Heap.lt_size hTI
        · rw [q]; exact Heap.lt_size hTO
        · rw [q]; obtain ⟨_, e1, _⟩ := h1.live; exact Heap.lt_size e1
        · rw [q]; obtain ⟨_, e2, _⟩ := h2.live; exact Heap.lt_size e2
      rw [upd_ne (Nat.ne_of_lt hlt)]
      exact (hf c hcm).1
  done := by
    intro X hP hw hK hc i pins s σ H E I hf st hg
    subst hP hw hK
    obtain ⟨hin, hz, hTI, ⟨x0, y0, hTO⟩, h1, h2⟩ := st
    obtain ⟨hend, xs, ys, hqx, hqy, lx, ly⟩ := hg
    obtain ⟨P1, St1, D1, st1, to1, hP1⟩ := Src.draws hc I hqx h1
    obtain ⟨P2, St2, D2, st2, to2, hP2⟩ := Src.draws hc I hqy h2
    exact wpAny_pyNext_zipD2_end D D1 D2 hz hTI hTO st1 st2 (by omega) (by omega) (by omega) fun h' tk hk => ⟨rfl, I.turnedL (t' := tk) (ch := [z, TI, TO, i1, i2]) (fun c o hb q =>
      hk c o (fun q' => hb (by simp [q'])) (fun q' => hb (by simp [q'])) (fun q' => hb (by simp [q'])) (fun q' => hb (by simp [q'])) q) hf⟩
  self := fun A i s Q E st h => wpAny_pyIter_zip st.2.1 h
/-! ### the readings -/
def enumW : Nat → List Dt → List Dt
  | _, [] => []
  | n, w :: ws => .tup [.int (n : Int), w] :: enumW (n + 1) ws
theorem enumW_len : ∀ (n : Nat) (ws : List Dt), (enumW n ws).length = ws.length
  | _, [] => rfl
  | n, w :: ws => by rw [enumW, List.length_cons, List.length_cons, enumW_len]
theorem enumW_get : ∀ {n : Nat} {ws : List Dt} {i : Nat} {w : Dt}, (enumW n ws)[i]? = some w → ∃ u, ws[i]? = some u ∧ w = .tup [.int ((n + i : Nat) : Int), u]
  | _, [], i, w, h => by simp [enumW] at h
  | n, u :: ws, 0, w, h => by
    simp [enumW] at h
    exact ⟨u, rfl, by rw [← h]; rfl⟩
  | n, u :: ws, i + 1, w, h => by
    rw [enumW, List.getElem?_cons_succ] at h
    obtain ⟨z, e, rfl⟩ := enumW_get h
    exact ⟨z, by simpa using e, by congr 4; omega⟩
section
variable {X : Cx} {E : WX}
/-- a datum that is walked -/
theorem src_of {K : Frg} {P : Hid} {S1 : Store} {H1 : Hp} {w : Dt} {v : V} {u : Value} {Q : List Dt → (Store → Prop) → Store → Prop} (W1 : Wd K P S1 H1) (r : Rp K P S1 H1 w v) (ru : RelV v u) (h : seqQ Q w S1) :
    ∃ (k : Src) (ws : List Dt) (gd : Store → Prop), u = k.val ∧ (∃ xs, k.At K H1 xs) ∧ (∀ (P' : Hid) (S2 : Store) (H2 : Hp), (∀ b, P' b → P b ∨ H1 b = none) → Wd K P' S2 H2 → Evo S1 H1 S2 H2 → gd S2 → ∃ xs, k.At K H2 xs ∧ RpL K P' S2 H2 ws xs) ∧ Q ws gd S1 := by
  unfold seqQ at h
  split at h
  · rename_i a
    rw [rp_ref] at r
    subst r
    cases ru
    split at h
    · rename_i ws e
      obtain ⟨xs, e2, rl⟩ := W1.sim a _ e
      refine ⟨.lst a, ws, _, rfl, ⟨xs, SqL.of e2⟩, fun P' S2 H2 hp W2 ev g => ?_, h⟩
      obtain ⟨ys, e3, rl3⟩ := W2.sim a _ g
      exact ⟨ys, SqL.of e3, rl3⟩
    · exact h.elim
  · rename_i ws
    unfold Rp at r
    obtain ⟨a, xs, rfl, f, rl⟩ := r
    cases ru
    exact ⟨.lst a, ws, _, rfl, ⟨xs, f.sqL⟩, fun P' S2 H2 hp W2 ev g => ⟨xs, SqL.of (ev a _ f.2.1 f.1).1, rpl_live hp ev rl⟩, h⟩
  · rename_i ws
    unfold Rp at r
    obtain ⟨a, xs, rfl, f, rl⟩ := r
    cases ru
    refine ⟨.lst a, ws, _, rfl, ⟨xs, sqK_of f⟩, fun P' S2 H2 hp W2 ev g => ⟨xs, ?_, rpl_live hp ev rl⟩, h⟩
    rcases f with ⟨o, f⟩ | f
    · exact .inl (.inr ⟨o, (ev a _ f.2.1 f.1).1⟩)
    · exact f.sq
  · rename_i ws
    unfold Rp at r
    obtain ⟨a, xs, rfl, f, rl⟩ := r
    cases ru
    exact ⟨.tup a, ws, _, rfl, ⟨xs, sqT_of (.inl f)⟩, fun P' S2 H2 hp W2 ev g => ⟨xs, SqT.of (ev a _ f.2.1 f.1).1, rpl_live hp ev rl⟩, h⟩
  · rename_i ws
    unfold Rp at r
    obtain ⟨a, xs, rfl, f, rl⟩ := r
    cases ru
    exact ⟨.tup a, ws, _, rfl, ⟨xs, f.sq⟩, fun P' S2 H2 hp W2 ev g => ⟨xs, f.sq, rpl_live hp ev rl⟩, h⟩
  · rename_i x
    rw [rp_str] at r
    subst r
    obtain ⟨t, rfl⟩ := ru
    refine ⟨.str x t, signsW x, _, rfl, ⟨_, rfl⟩, fun P' S2 H2 hp W2 ev g => ⟨_, rfl, ?_⟩, h⟩
    unfold signsW
    generalize x.cps.toList = l
    induction l with
    | nil => exact RpL.nil
    | cons c l ih => exact RpL.cons rpStr ih
  · exact h.elim
def mEnum (ma : MA) : MI := fun σ S Q Ex => ma σ S (fun vs S1 => match vs with
  | [w] => seqQ (fun ws gd S2 => Q (enumW 0 ws) gd S2) w S1
  | _ => False) Ex
theorem ji_enum {e : Expr} {ma : MA} {p pos tpos : Pos} {elts : List Expr} {kk : Nat} (hg : Gl X "enumerate") (hm : X.mg "enumerate" = none) (ha : JA X E [e] ma) (hs : starEach [e] X.env = [(false, eval e X.env)] := by rfl) :
    JI X E (.Tuple elts kk tpos) (.Call (.Name "enumerate" p) [e] [] pos) (mEnum ma) := by
  refine ⟨fun pins s σv H R I q => ?_⟩
  obtain ⟨P, S, σ, Q, Ex, W, r, m, nj, nx⟩ := q
  refine Call_ (ld_blt I hg hm boot_enumerate (PyProof.Rows.callWith_type1 (thn (ha.run pos pins s σv H (fun vs H' => ∃ ws S', Wd X.K P S' H' ∧ RpL X.K P S' H' ws vs ∧ Evo S H S' H' ∧ (match ws with | [w] => seqQ (fun ws gd S2 => Q (enumW 0 ws) gd S2) w S' | _ => False)) I
    ⟨P, S, σ, _, Ex, W, r, m, fun vs H' ws S' W' rl e' q' => ⟨ws, S', W', rl, e', q'⟩, nx⟩) fun us s1 ⟨vs, H1, I1, r1, ws, S1, W1, rl, e1, m1⟩ => ?_) hs rfl))
  split at m1
  · rename_i w
    obtain ⟨v, rfl, rv⟩ := rl.one
    cases r1 with
    | cons ru rr =>
      cases rr
      obtain ⟨k, us, gd, rfl, ⟨xs, hat⟩, live, m1⟩ := src_of W1 rv ru m1
      obtain ⟨F, B, hF⟩ := Src.begins I1 hat
      refine enum1_begins B hF fun h' he hit hsz hk => wpAny_pyIter_enum he ?_
      have I2 : L2.Inv X pins σv H1 { s1 with heap := h' } := I1.kept (t' := s1.toks) hk
      have nea : ∀ a, k.addr = some a → a < s1.heap.objs.size := fun a ha => Src.below I1 hat ha
      have hef : s1.heap.objs.size + 1 ∉ k.fp s1.heap.objs.size := Src.notIn (Nat.ne_of_gt (by omega)) fun a ha => Nat.ne_of_gt (Nat.lt_succ_of_lt (nea a ha))
      refine ⟨s1.heap.objs.size + 1, [s1.heap.objs.size + 1, s1.heap.objs.size], _, _, H1, rfl, I2, turn_enumK k us.length (s1.heap.objs.size + 1) s1.heap.objs.size hef (Nat.ne_of_gt (by omega)), ⟨Nat.zero_le _, ⟨.none, he⟩, Src.tn0 hit fun a ha => Nat.ne_of_lt (nea a ha)⟩, fun b hb => ?_, nj _ H1 _ gd S1 W1 e1 ?_ m1⟩
      · have e' : b = s1.heap.objs.size + 1 ∨ b = s1.heap.objs.size := by simpa using hb
        have hle : s1.heap.objs.size ≤ b := by
          rcases e' with q | q
          · rw [q]; exact Nat.le_succ _
          · rw [q]; exact Nat.le_refl _
        exact I1.fpOk hle (I1.hok.fresh hle)
      · intro P' S2 H2 i hp W2 e2 hgd
        obtain ⟨ys, hy, rly⟩ := live P' S2 H2 hp W2 e2 hgd
        refine ⟨fun w ew => ?_, fun hi => ⟨by rw [enumW_len] at hi; exact hi, ys, hy, rly.length.symm⟩⟩
        obtain ⟨z, ez, rfl⟩ := enumW_get ew
        obtain ⟨x, ex, rx⟩ := rly.get ez
        refine ⟨⟨(List.getElem?_eq_some_iff.mp ez).1, ys, hy, rly.length.symm⟩, fun y H' hyl => ?_⟩
        obtain ⟨T, x', rfl, hT, rfl, hx'⟩ := hyl
        have q1 := (hx' ys hy).symm.trans ex
        cases q1
        refine ⟨W2.new hT, Evo.new hT, ?_⟩
        unfold Rp
        refine ⟨T, _, rfl, Fz.new W2 hT, RpL.cons ?_ (RpL.cons (rx.mono (Evo.new hT)) RpL.nil)⟩
        rw [rp_int]
        congr 1
        omega
  · exact m1.elim
def mZipK (ma : MA) : MI := fun σ S Q Ex => ma σ S (fun vs S1 => match vs with
  | [w, z] => seqQ (fun ws gd1 S2 => seqQ (fun zs gd2 S3 => Q (zipW ws zs) (fun S' => gd1 S' ∧ gd2 S') S3) z S2) w S1
  | _ => False) Ex
theorem ji_zipK {e e2 : Expr} {ma : MA} {p pos tpos : Pos} {elts : List Expr} {kk : Nat} (hg : Gl X "zip") (hm : X.mg "zip" = none) (ha : JA X E [e, e2] ma)
    (hs : starEach [e, e2] X.env = (false, eval e X.env) :: starEach [e2] X.env := by rfl) (hpl : (backTo pos (starEach [e2] X.env)).any (·.1) = false := by rfl) :
    JI X E (.Tuple elts kk tpos) (.Call (.Name "zip" p) [e, e2] [] pos) (mZipK ma) := by
  refine ⟨fun pins s σv H R I q => ?_⟩
  obtain ⟨P, S, σ, Q, Ex, W, r, m, nj, nx⟩ := q
  refine Call_ (ld_blt I hg hm PyProof.Rows.boot_zip (PyProof.Rows.callWith_type1 (thn (ha.run pos pins s σv H (fun vs H' => ∃ ws S', Wd X.K P S' H' ∧ RpL X.K P S' H' ws vs ∧ Evo S H S' H' ∧ (match ws with | [w, z] => seqQ (fun ws gd1 S2 => seqQ (fun zs gd2 S3 => Q (zipW ws zs) (fun S' => gd1 S' ∧ gd2 S') S3) z S2) w S' | _ => False)) I
    ⟨P, S, σ, _, Ex, W, r, m, fun vs H' ws S' W' rl e' q' => ⟨ws, S', W', rl, e', q'⟩, nx⟩) fun us s1 ⟨vs, H1, I1, r1, ws, S1, W1, rl, e1, m1⟩ => ?_) hs hpl))
  split at m1
  · rename_i w z
    obtain ⟨v, v2, rfl, rv, rv2⟩ := rl.two
    cases r1 with
    | cons ru rr =>
      cases rr with
      | cons ru2 rr =>
      cases rr
      obtain ⟨k1, us, gd1, rfl, ⟨xs, hat1⟩, live1, m1⟩ := src_of W1 rv ru m1
      obtain ⟨k2, zs, gd2, rfl, ⟨ys, hat2⟩, live2, m1⟩ := src_of W1 rv2 ru2 m1
      obtain ⟨F1, B1, hF1⟩ := Src.begins I1 hat1
      obtain ⟨F2, B2, hF2⟩ := Src.begins I1 hat2
      refine zip_begins2 B1 B2 hF1 hF2 fun h' hz hTI hTO h1 h2 hsz hk => wpAny_pyIter_zip hz ?_
      have I2 : L2.Inv X pins σv H1 { s1 with heap := h' } := I1.kept (t' := s1.toks) hk
      have nea : ∀ a, k1.addr = some a → a < s1.heap.objs.size := fun a ha => Src.below I1 hat1 ha
      have neb : ∀ a, k2.addr = some a → a < s1.heap.objs.size := fun a ha => Src.below I1 hat2 ha
      have n1 : ∀ c, s1.heap.objs.size ≤ c → c ≠ s1.heap.objs.size → c ∉ k1.fp s1.heap.objs.size := fun c hc h => Src.notIn h fun a ha => Nat.ne_of_gt (Nat.lt_of_lt_of_le (nea a ha) hc)
      have n2 : ∀ c, s1.heap.objs.size ≤ c → c ≠ s1.heap.objs.size + 1 → c ∉ k2.fp (s1.heap.objs.size + 1) := fun c hc h => Src.notIn h fun a ha => Nat.ne_of_gt (Nat.lt_of_lt_of_le (neb a ha) hc)
      have D : ZipSep2 (s1.heap.objs.size + 4) (s1.heap.objs.size + 2) (s1.heap.objs.size + 3) s1.heap.objs.size (s1.heap.objs.size + 1) (k1.fp s1.heap.objs.size) (k2.fp (s1.heap.objs.size + 1)) :=
        ⟨Nat.ne_of_lt (by omega), Nat.ne_of_lt (by omega), Nat.ne_of_lt (by omega), Nat.ne_of_gt (by omega), Src.mem, n1 _ (by omega) (by omega), n1 _ (by omega) (by omega), Nat.ne_of_gt (by omega), Src.mem, n2 _ (by omega) (by omega), n2 _ (by omega) (by omega), n2 _ (by omega) (by omega), n1 _ (by omega) (by omega)⟩
      refine ⟨s1.heap.objs.size + 4, [s1.heap.objs.size + 4, s1.heap.objs.size + 2, s1.heap.objs.size + 3, s1.heap.objs.size, s1.heap.objs.size + 1], _, _, H1, rfl, I2, turn_zipK k1 k2 us.length zs.length D,
        ⟨⟨Nat.zero_le _, Nat.zero_le _⟩, hz, hTI, ⟨_, _, hTO⟩, Src.tn0 h1 fun a ha => Nat.ne_of_lt (nea a ha), Src.tn0 h2 fun a ha => Nat.ne_of_lt (Nat.lt_succ_of_lt (neb a ha))⟩, fun c hcm => ?_, nj _ H1 _ _ S1 W1 e1 ?_ m1⟩
      · have e' : c = s1.heap.objs.size + 4 ∨ c = s1.heap.objs.size + 2 ∨ c = s1.heap.objs.size + 3 ∨ c = s1.heap.objs.size ∨ c = s1.heap.objs.size + 1 := by simpa using hcm
        have hle : s1.heap.objs.size ≤ c := by
          rcases e' with q | q | q | q | q <;> rw [q]
          · exact Nat.le_add_right _ _
          · exact Nat.le_add_right _ _
          · exact Nat.le_add_right _ _
          · exact Nat.le_refl _
          · exact Nat.le_add_right _ _
        exact I1.fpOk hle (I1.hok.fresh hle)
      · intro P' S2 H2 i hp W2 e2 hgd
        obtain ⟨xs', hx, rlx⟩ := live1 P' S2 H2 hp W2 e2 hgd.1
        obtain ⟨ys', hy, rly⟩ := live2 P' S2 H2 hp W2 e2 hgd.2
        refine ⟨fun w ew => ?_, fun hi => ⟨by rw [zipW_len] at hi; omega, xs', ys', hx, hy, rlx.length.symm, rly.length.symm⟩⟩
        obtain ⟨wa, wb, ea, eb, rfl⟩ := zipW_get ew
        obtain ⟨x, ex, rx⟩ := rlx.get ea
        obtain ⟨y, ey, ry⟩ := rly.get eb
        refine ⟨⟨(List.getElem?_eq_some_iff.mp ea).1, (List.getElem?_eq_some_iff.mp eb).1, xs', ys', hx, hy, rlx.length.symm, rly.length.symm⟩, fun z H' hzl => ?_⟩
        obtain ⟨T, x', y', rfl, nT, rfl, hx', hy'⟩ := hzl
        have q1 := (hx' xs' hx).symm.trans ex
        have q2 := (hy' ys' hy).symm.trans ey
        cases q1
        cases q2
        refine ⟨W2.new nT, Evo.new nT, ?_⟩
        unfold Rp
        exact ⟨T, _, rfl, Fz.new W2 nT, RpL.cons (rx.mono (Evo.new nT)) (RpL.cons (ry.mono (Evo.new nT)) RpL.nil)⟩
  · exact m1.elim
end
end Dn

/-! in; dicts; sorted; targets of comprehensions that are patterns; new lists by +, slices; methods of texts -/
namespace Dn
open PySem PySem.Spec PyProof.Rows L2
/-! ### keys, what a dict holds -/
def keyW : Dt → Option Key
  | .int i => some (.inl i)
  | .str x => some (.inr x)
  | _ => none
def keysW : List Dt → Option (List Key)
  | [] => some []
  | w :: ws => match keyW w, keysW ws with
    | some k, some ks => some (k :: ks)
    | _, _ => none
def tkeyW : Dt → Option (List Key)
  | .tup us => keysW us
  | _ => none
def lkW {κ : Type} [DecidableEq κ] : List κ → List Dt → κ → Option Dt
  | k :: ks, w :: ws, x => if k = x then some w else lkW ks ws x
  | _, _, _ => none
def OptRp (K : Frg) (P : Hid) (S : Store) (H : Hp) (o : Option Dt) (r : Option V) : Prop := match o with
  | none => r = none
  | some u => ∃ v, r = some v ∧ Rp K P S H u v
section
variable {K : Frg} {P : Hid} {S : Store} {H : Hp}
theorem keyW_V {w : Dt} {v : V} {k : Key} (r : Rp K P S H w v) (h : keyW w = some k) : v = kV k := by
  cases w with
  | int i => cases h; exact rp_int.mp r
  | str i => cases h; exact rp_str.mp r
  | _ => cases h
theorem keysW_V : ∀ {ws : List Dt} {xs : List V} {ks : List Key}, RpL K P S H ws xs → keysW ws = some ks → xs = ks.map kV
  | [], xs, ks, r, h => by
    cases h
    exact r.nilE
  | w :: ws, xs, ks, r, h => by
    obtain ⟨v, t, rfl, r1, r2⟩ := r.consE
    unfold keysW at h
    split at h
    · rename_i k ks' e1 e2
      cases h
      rw [keyW_V r1 e1, keysW_V r2 e2]
      rfl
    · cases h
theorem lkW_val {κ : Type} [DecidableEq κ] : ∀ {ks : List κ} {ws : List Dt} {xs : List V} (x : κ), RpL K P S H ws xs → ks.length = ws.length → OptRp K P S H (lkW ks ws x) (valV (ks.zip xs) x)
  | [], [], xs, x, r, hl => by
    rw [r.nilE]
    rfl
  | k :: ks, w :: ws, xs, x, r, hl => by
    obtain ⟨v, t, rfl, r1, r2⟩ := r.consE
    unfold lkW
    by_cases h : k = x
    · rw [if_pos h]
      exact ⟨v, valV_pos (p := (k, v)) h, r1⟩
    · rw [if_neg h]
      have ih := lkW_val x r2 (by simpa using hl)
      rw [show (k :: ks).zip (v :: t) = (k, v) :: ks.zip t from rfl, valV_neg (p := (k, v)) h]
      exact ih
  | [], _ :: _, _, _, _, hl => by simp at hl
  | _ :: _, [], _, _, _, hl => by simp at hl
end
/-- what d[w] is: not to be told; not there; there -/
def dlook (S : Store) (d w : Dt) : Option (Option Dt) := match d with
  | .dK ks ws => (keyW w).map (lkW ks ws)
  | .dT ks ws => (tkeyW w).map (lkW ks ws)
  | .ref a => match S a with
    | some (.dK ks ws) => (keyW w).map (lkW ks ws)
    | some (.dT ks ws) => (tkeyW w).map (lkW ks ws)
    | _ => none
  | _ => none
section
variable {K : Frg} {P : Hid} {S : Store} {H : Hp}
theorem dlookK {a : Addr} {ks : List Key} {ws : List Dt} {xs : List V} {w : Dt} {y : V} {o : Option Dt} (e : H a = some (.dK (ks.zip xs))) (hl : ks.length = ws.length) (rl : RpL K P S H ws xs) (ry : Rp K P S H w y) (h : (keyW w).map (lkW ks ws) = some o) :
    ∃ r, DGet H a y r ∧ OptRp K P S H o r := by
  cases ek : keyW w with
  | none => rw [ek] at h; cases h
  | some k =>
    rw [ek] at h
    cases h
    have := keyW_V ry ek
    subst this
    exact ⟨_, DGet.k e, lkW_val k rl hl⟩
theorem dlookT {a : Addr} {ks : List (List Key)} {ws : List Dt} {xs : List V} {w : Dt} {y : V} {o : Option Dt} (e : H a = some (.dT (ks.zip xs))) (hl : ks.length = ws.length) (rl : RpL K P S H ws xs) (ry : Rp K P S H w y) (h : (tkeyW w).map (lkW ks ws) = some o) :
    ∃ r, DGet H a y r ∧ OptRp K P S H o r := by
  cases ek : tkeyW w with
  | none => rw [ek] at h; cases h
  | some k =>
    rw [ek] at h
    cases h
    cases w with
    | tup us =>
      unfold Rp at ry
      obtain ⟨b, zs, rfl, fz, rz⟩ := ry
      have ez := keysW_V rz ek
      subst ez
      exact ⟨_, DGet.t e fz.1, lkW_val k rl hl⟩
    | _ => cases ek
theorem dlook_of (W : Wd K P S H) {d w : Dt} {x y : V} {o : Option Dt} (rd : Rp K P S H d x) (ry : Rp K P S H w y) (h : dlook S d w = some o) :
    ∃ a r, x = .ref a ∧ DGet H a y r ∧ OptRp K P S H o r := by
  unfold dlook at h
  split at h
  · unfold Rp at rd
    obtain ⟨a, xs, rfl, fz, hl, rl⟩ := rd
    obtain ⟨r, q⟩ := dlookK fz.1 hl rl ry h
    exact ⟨a, r, rfl, q⟩
  · unfold Rp at rd
    obtain ⟨a, xs, rfl, fz, hl, rl⟩ := rd
    obtain ⟨r, q⟩ := dlookT fz.1 hl rl ry h
    exact ⟨a, r, rfl, q⟩
  · rename_i a
    rw [rp_ref] at rd
    subst rd
    split at h
    · rename_i ks ws ea
      obtain ⟨xs, e, hl, rl⟩ := W.sim a _ ea
      obtain ⟨r, q⟩ := dlookK e hl rl ry h
      exact ⟨a, r, rfl, q⟩
    · rename_i ks ws ea
      obtain ⟨xs, e, hl, rl⟩ := W.sim a _ ea
      obtain ⟨r, q⟩ := dlookT e hl rl ry h
      exact ⟨a, r, rfl, q⟩
    · cases h
  · cases h
/-! ### flat data -/
def flatD : Dt → Bool
  | .non | .bl _ | .int _ | .str _ => true
  | _ => false
theorem flat_rp {w : Dt} {v : V} (h : flatD w = true) (r : Rp K P S H w v) : flatV v = true := by
  cases w with
  | non => rw [rp_non] at r; subst r; rfl
  | bl b => rw [rp_bl] at r; subst r; rfl
  | int b => rw [rp_int] at r; subst r; rfl
  | str b => rw [rp_str] at r; subst r; rfl
  | _ => cases h
theorem flat_eq {w z : Dt} {v u : V} (hw : flatD w = true) (hz : flatD z = true) (r : Rp K P S H w v) (r2 : Rp K P S H z u) : eqV v u = eqD w z := by
  cases w with
  | non => rw [rp_non] at r; subst r; cases z with
    | non => rw [rp_non] at r2; subst r2; rfl
    | bl b => rw [rp_bl] at r2; subst r2; rfl
    | int b => rw [rp_int] at r2; subst r2; rfl
    | str b => rw [rp_str] at r2; subst r2; rfl
    | _ => cases hz
  | bl a => rw [rp_bl] at r; subst r; cases z with
    | non => rw [rp_non] at r2; subst r2; rfl
    | bl b => rw [rp_bl] at r2; subst r2; rfl
    | int b => rw [rp_int] at r2; subst r2; unfold eqD eqV; by_cases h : (if a then (1 : Int) else 0) = b <;> simp [h]
    | str b => rw [rp_str] at r2; subst r2; rfl
    | _ => cases hz
  | int a => rw [rp_int] at r; subst r; cases z with
    | non => rw [rp_non] at r2; subst r2; rfl
    | bl b => rw [rp_bl] at r2; subst r2; unfold eqD eqV; by_cases h : a = (if b then (1 : Int) else 0) <;> simp [h]
    | int b => rw [rp_int] at r2; subst r2; unfold eqD eqV; by_cases h : a = b <;> simp [h]
    | str b => rw [rp_str] at r2; subst r2; rfl
    | _ => cases hz
  | str a => rw [rp_str] at r; subst r; cases z with
    | non => rw [rp_non] at r2; subst r2; rfl
    | bl b => rw [rp_bl] at r2; subst r2; rfl
    | int b => rw [rp_int] at r2; subst r2; rfl
    | str b => rw [rp_str] at r2; subst r2; unfold eqD eqV; by_cases h : a = b <;> simp [h]
    | _ => cases hz
  | _ => cases hw
def memW (w : Dt) (ws : List Dt) : Bool := ws.any fun y => eqD y w
theorem flat_all : ∀ {ws : List Dt} {xs : List V}, ws.all flatD = true → RpL K P S H ws xs → xs.all flatV = true
  | [], xs, _, r => by rw [r.nilE]; rfl
  | w :: ws, xs, h, r => by
    obtain ⟨v, t, rfl, r1, r2⟩ := r.consE
    rw [List.all_cons, Bool.and_eq_true] at h ⊢
    exact ⟨flat_rp h.1 r1, flat_all h.2 r2⟩
theorem flat_in {w : Dt} {v : V} (hw : flatD w = true) (r : Rp K P S H w v) : ∀ {ws : List Dt} {xs : List V}, ws.all flatD = true → RpL K P S H ws xs → inV v xs = memW w ws
  | [], xs, _, rl => by rw [rl.nilE]; rfl
  | z :: ws, xs, h, rl => by
    obtain ⟨u, t, rfl, r1, r2⟩ := rl.consE
    rw [List.all_cons, Bool.and_eq_true] at h
    have ih := flat_in hw r h.2 r2
    unfold inV memW at ih ⊢
    rw [List.any_cons, List.any_cons, flat_eq h.1 hw r1 r, ih]
end
/-! ### in, not in -/
/-- in a list or tuple -/
def inSeqW (neg : Bool) (w : Dt) (ws : List Dt) (S : Store) (Q : Dt → Store → Prop) : Prop := (flatD w = true ∧ ws.all flatD = true) ∧ Q (.bl (if neg then !memW w ws else memW w ws)) S
def pyIn (neg : Bool) : Op2
  | w, .tup ws, S, Q => inSeqW neg w ws S Q
  | w, .kt ws, S, Q => inSeqW neg w ws S Q
  | w, .lst ws, S, Q => inSeqW neg w ws S Q
  | w, .str z, S, Q => match w with
    | .str x => ∃ c, x = ⟨#[c]⟩ ∧ Q (.bl (if neg then !decide (c ∈ z.cps.toList) else decide (c ∈ z.cps.toList))) S
    | _ => False
  | w, z, S, Q => match dlook S z w with
    | some o => Q (.bl (if neg then !o.isSome else o.isSome)) S
    | none => match lsv S z with
      | some ws => inSeqW neg w ws S Q
      | none => False
section
variable {X : Cx} {E : WX}
theorem in_seq {K : Frg} {P : Hid} {S : Store} {H : Hp} {neg : Bool} {w : Dt} {ws : List Dt} {x y : V} {Q : Dt → Store → Prop} {Qv : VK} (W : Wd K P S H) (r : Rp K P S H w x) {p : Addr} {xs : List V} (ey : y = .ref p) (hq : SqL K H p xs ∨ SqT K H p xs) (rl : RpL K P S H ws xs) (g : inSeqW neg w ws S Q) (nq : NQ K P S H Q Qv) : rIn K neg x y H Qv := by
  obtain ⟨⟨g1, g2⟩, g3⟩ := g
  refine ⟨p, xs, ey, hq, flat_rp g1 r, flat_all g2 rl, ?_⟩
  rw [flat_in g1 r g2 rl]
  exact nq.now W rpBl g3
theorem dget_isSome {K : Frg} {P : Hid} {S : Store} {H : Hp} {o : Option Dt} {r : Option V} (h : OptRp K P S H o r) : r.isSome = o.isSome := by
  cases o with
  | none => rw [show r = none from h]; rfl
  | some u => obtain ⟨v, rfl, _⟩ := h; rfl
theorem o_in (hu : X.A.units + 64 < cLine) : OpR X (compareOp .In) (rd2 X.K (pyIn false)) := by
  intro pins s σ H x y v u Qv I rx ry q
  obtain ⟨P, S, w, z, Q, W, r1, r2, g, nq⟩ := q
  unfold pyIn at g
  split at g
  · obtain ⟨a, xs, rfl, h1, rl⟩ := rp_tup r2
    exact op_in_seq pins s σ H _ _ v u Qv I rx ry (in_seq W r1 rfl (.inr h1) rl g nq)
  · unfold Rp at r2
    obtain ⟨a, xs, rfl, f, rl⟩ := r2
    exact op_in_seq pins s σ H _ _ v u Qv I rx ry (in_seq W r1 rfl (.inr f.sq) rl g nq)
  · obtain ⟨a, xs, rfl, h1, rl⟩ := lsv_of W r2 rfl
    exact op_in_seq pins s σ H _ _ v u Qv I rx ry (in_seq W r1 rfl (.inl h1) rl g nq)
  · split at g
    · obtain ⟨c, rfl, g⟩ := g
      rw [rp_str] at r1 r2
      exact op_in_sign pins s σ H _ _ v u Qv I rx ry ⟨c, _, r1, r2, nq.now W rpBl g⟩
    · exact g.elim
  · split at g
    · rename_i o eo
      obtain ⟨a, r, rfl, dg, hm⟩ := dlook_of W r2 r1 eo
      cases ry
      refine d_in (by omega) I dg rx fun s' I' => ⟨.bl r.isSome, H, I', rfl, ?_⟩
      rw [dget_isSome hm]
      exact nq.now W rpBl g
    · split at g
      · rename_i ws e
        obtain ⟨a, xs, rfl, h1, rl⟩ := lsv_of W r2 e
        exact op_in_seq pins s σ H _ _ v u Qv I rx ry (in_seq W r1 rfl (.inl h1) rl g nq)
      · exact g.elim
theorem o_notin (hu : X.A.units + 64 < cLine) : OpR X (compareOp .NotIn) (rd2 X.K (pyIn true)) := by
  intro pins s σ H x y v u Qv I rx ry q
  obtain ⟨P, S, w, z, Q, W, r1, r2, g, nq⟩ := q
  unfold pyIn at g
  split at g
  · obtain ⟨a, xs, rfl, h1, rl⟩ := rp_tup r2
    exact op_notIn_seq pins s σ H _ _ v u Qv I rx ry (in_seq W r1 rfl (.inr h1) rl g nq)
  · unfold Rp at r2
    obtain ⟨a, xs, rfl, f, rl⟩ := r2
    exact op_notIn_seq pins s σ H _ _ v u Qv I rx ry (in_seq W r1 rfl (.inr f.sq) rl g nq)
  · obtain ⟨a, xs, rfl, h1, rl⟩ := lsv_of W r2 rfl
    exact op_notIn_seq pins s σ H _ _ v u Qv I rx ry (in_seq W r1 rfl (.inl h1) rl g nq)
  · split at g
    · obtain ⟨c, rfl, g⟩ := g
      rw [rp_str] at r1 r2
      exact op_notIn_sign pins s σ H _ _ v u Qv I rx ry ⟨c, _, r1, r2, nq.now W rpBl g⟩
    · exact g.elim
  · split at g
    · rename_i o eo
      obtain ⟨a, r, rfl, dg, hm⟩ := dlook_of W r2 r1 eo
      cases ry
      refine d_notIn (by omega) I dg rx fun s' I' => ⟨.bl (!r.isSome), H, I', rfl, ?_⟩
      rw [dget_isSome hm]
      exact nq.now W rpBl g
    · split at g
      · rename_i ws e
        obtain ⟨a, xs, rfl, h1, rl⟩ := lsv_of W r2 e
        exact op_notIn_seq pins s σ H _ _ v u Qv I rx ry (in_seq W r1 rfl (.inl h1) rl g nq)
      · exact g.elim
/-! ### d[k], d[k] = v, d.get(k, x), d.setdefault(k, x) -/
def pyIxD : Op2 := fun d w S Q => match dlook S d w with
  | some (some u) => Q u S
  | _ => False
theorem o_ixD (hu : X.A.units + 64 < cLine) : IxR X (rd2 X.K pyIxD) := by
  intro value slice pins s σ H x y v u Qv I rx ry h hs
  obtain ⟨P, S, w, z, Q, W, r1, r2, g, nq⟩ := h
  unfold pyIxD at g
  split at g
  · rename_i o eo
    obtain ⟨a, r, rfl, dg, hm⟩ := dlook_of W r1 r2 eo
    obtain ⟨v', rfl, rv⟩ := hm
    cases rx
    unfold subscriptTail
    have hT := dict_typeIs I dg
    refine wpAny_bind ?_
    rw [getitemInPython_of_ne hT.not_modules]
    refine wpAny_bind (wpAny_specialOf hT PySem.F.slot_dict_getitem.lookup ?_)
    have fin : wpAny (model X.prog X.w) X.A (subscripted slice false (.ref a) u) (fun r s₃ => wpAny (model X.prog X.w) X.A (letTemporaryGo value (.ref a) r >>= fun _ => pure r) (EP X pins σ Qv) X.xe s₃) X.xe s := by
      rw [hs]
      exact wpAny_operating (d_getItem (by omega) I dg ry fun w' s3 I3 rw' => wpAny_bind (wpAny_letTemporaryGo (wpAny_pure ⟨v', H, I3, rw', nq.now W rv g⟩)))
    first
      | exact wpAny_pure (wpAny_bind fin)
      | exact wpAny_bind (wpAny_pure (wpAny_bind fin))
      | exact wpAny_bind fin
  · exact g.elim
/-- a store into a dict -/
def memK {κ : Type} [DecidableEq κ] (ks : List κ) (k : κ) : Bool := ks.any fun x => decide (x = k)
def putKs {κ : Type} [DecidableEq κ] (ks : List κ) (k : κ) : List κ := if memK ks k = true then ks else ks ++ [k]
def putWs {κ : Type} [DecidableEq κ] (ks : List κ) (ws : List Dt) (k : κ) (w : Dt) : List Dt := if memK ks k = true then ks.zipWith (fun x y => if x = k then w else y) ws else ws ++ [w]
end
section
variable {K : Frg} {P : Hid} {S : Store} {H : Hp}
theorem any_zip {κ : Type} [DecidableEq κ] (k : κ) : ∀ {ks : List κ} {xs : List V}, ks.length = xs.length → ((ks.zip xs).any fun kv => decide (kv.1 = k)) = memK ks k
  | [], [], _ => rfl
  | x :: ks, y :: xs, h => by
    show (decide (x = k) || (ks.zip xs).any fun kv => decide (kv.1 = k)) = (decide (x = k) || memK ks k)
    rw [any_zip k (by simpa using h)]
  | [], _ :: _, h => by simp at h
  | _ :: _, [], h => by simp at h
theorem map_zip {κ : Type} [DecidableEq κ] (k : κ) (v : V) : ∀ {ks : List κ} {xs : List V}, ks.length = xs.length → (ks.zip xs).map (fun kv => if kv.1 = k then (kv.1, v) else kv) = ks.zip (ks.zipWith (fun x y => if x = k then v else y) xs)
  | [], [], _ => rfl
  | x :: ks, y :: xs, h => by
    show (if x = k then (x, v) else (x, y)) :: (ks.zip xs).map (fun kv => if kv.1 = k then (kv.1, v) else kv) = (x, if x = k then v else y) :: ks.zip (ks.zipWith (fun x y => if x = k then v else y) xs)
    rw [map_zip k v (by simpa using h)]
    by_cases e : x = k <;> simp [e]
  | [], _ :: _, h => by simp at h
  | _ :: _, [], h => by simp at h
theorem zipWith_rp {κ : Type} [DecidableEq κ] (k : κ) {w : Dt} {v : V} (r : Rp K P S H w v) : ∀ {ks : List κ} {ws : List Dt} {xs : List V}, ks.length = ws.length → RpL K P S H ws xs → RpL K P S H (ks.zipWith (fun x y => if x = k then w else y) ws) (ks.zipWith (fun x y => if x = k then v else y) xs)
  | [], [], xs, _, rl => RpL.nil
  | x :: ks, z :: ws, xs, h, rl => by
    obtain ⟨u, t, rfl, r1, r2⟩ := rl.consE
    refine RpL.cons ?_ (zipWith_rp k r (by simpa using h) r2)
    dsimp only
    by_cases e : x = k
    · rw [if_pos e, if_pos e]; exact r
    · rw [if_neg e, if_neg e]; exact r1
  | [], _ :: _, _, h, _ => by simp at h
  | _ :: _, [], _, h, _ => by simp at h
theorem put_zip {κ : Type} [DecidableEq κ] {ks : List κ} {ws : List Dt} {xs : List V} (k : κ) {w : Dt} {v : V} (hl : ks.length = ws.length) (rl : RpL K P S H ws xs) (r : Rp K P S H w v) :
    ∃ xs', putK (ks.zip xs) k v = (putKs ks k).zip xs' ∧ (putKs ks k).length = (putWs ks ws k w).length ∧ RpL K P S H (putWs ks ws k w) xs' := by
  have hx : ks.length = xs.length := by rw [hl]; exact rl.length
  unfold putK putKs putWs
  rw [any_zip k hx]
  by_cases h : memK ks k = true
  · rw [if_pos h, if_pos h, if_pos h]
    exact ⟨_, map_zip k v hx, by rw [List.length_zipWith, hl, Nat.min_self], zipWith_rp k r hl rl⟩
  · rw [if_neg h, if_neg h, if_neg h]
    refine ⟨xs ++ [v], ?_, by rw [List.length_append, List.length_append, hl]; rfl, rl.append (RpL.cons r RpL.nil)⟩
    rw [List.zip_append hx]
    rfl
theorem Wd.putK (W : Wd K P S H) {a : Addr} {ks : List Key} {ws : List Dt} {xs : List V} {u : Ob} (ea : S a = some u) (hz : ks.length = ws.length) (rl : RpL K P (sup S a (.dK ks ws)) (upd H a (.dK (ks.zip xs))) ws xs) :
    Wd K P (sup S a (.dK ks ws)) (upd H a (.dK (ks.zip xs))) := W.put (b := .dK ks ws) (W.nohid ea) (fun n => by rw [ea] at n; cases n) ⟨xs, upd_same, hz, rl⟩
theorem Wd.putT (W : Wd K P S H) {a : Addr} {ks : List (List Key)} {ws : List Dt} {xs : List V} {u : Ob} (ea : S a = some u) (hz : ks.length = ws.length) (rl : RpL K P (sup S a (.dT ks ws)) (upd H a (.dT (ks.zip xs))) ws xs) :
    Wd K P (sup S a (.dT ks ws)) (upd H a (.dT (ks.zip xs))) := W.put (b := .dT ks ws) (W.nohid ea) (fun n => by rw [ea] at n; cases n) ⟨xs, upd_same, hz, rl⟩
end
section
variable {X : Cx} {E : WX}
/-- d[k] = v -/
def pyDPut : OpSet := fun d w v S Q => match d with
  | .ref a => match S a with
    | some (.dK ks ws) => (match keyW w with
      | some k => ks.length < sizeLine ∧ Q (sup S a (.dK (putKs ks k) (putWs ks ws k v)))
      | none => False)
    | some (.dT ks ws) => (match tkeyW w with
      | some k => ks.length < sizeLine ∧ Q (sup S a (.dT (putKs ks k) (putWs ks ws k v)))
      | none => False)
    | _ => False
  | _ => False
theorem s_dict (hu : X.A.units + 64 < cLine) : PSet X (rdSet X.K pyDPut) := by
  intro pins s σ H o i v ov iv u Qv I ro ri rv h
  obtain ⟨P, S, wo, wi, w, Q, W, r1, r2, r3, g, k⟩ := h
  unfold pyDPut at g
  split at g
  · rename_i a
    rw [rp_ref] at r1
    subst r1
    cases ro
    split at g
    · rename_i ks ws ea
      split at g
      · rename_i ky ek
        obtain ⟨g1, g2⟩ := g
        have := keyW_V r2 ek
        subst this
        obtain ⟨xs, e, hl, rl⟩ := W.sim a _ ea
        obtain ⟨xs', e1, e2, e3⟩ := put_zip ky hl rl r3
        have hz : (ks.zip xs).length < sizeLine := by rw [List.length_zip, ← rl.length, ← hl, Nat.min_self]; exact g1
        refine d_setItem (by omega) I (DPut.k e hz) ri rv fun s' I' => ⟨_, I', ?_⟩
        rw [e1]
        have ev : Evo S H (sup S a (.dK (putKs ks ky) (putWs ks ws ky w))) (upd H a (.dK ((putKs ks ky).zip xs'))) := Evo.set ea
        exact k _ _ (W.putK ea e2 (e3.mono ev)) ev g2
      · exact g.elim
    · rename_i ks ws ea
      split at g
      · rename_i ky ek
        obtain ⟨g1, g2⟩ := g
        cases wi with
        | tup us =>
          unfold Rp at r2
          obtain ⟨b, zs, rfl, fz, rz⟩ := r2
          have ez := keysW_V rz ek
          subst ez
          obtain ⟨xs, e, hl, rl⟩ := W.sim a _ ea
          obtain ⟨xs', e1, e2, e3⟩ := put_zip ky hl rl r3
          have hz : (ks.zip xs).length < sizeLine := by rw [List.length_zip, ← rl.length, ← hl, Nat.min_self]; exact g1
          refine d_setItem (by omega) I (DPut.t e fz.1 hz) ri rv fun s' I' => ⟨_, I', ?_⟩
          rw [e1]
          have ev : Evo S H (sup S a (.dT (putKs ks ky) (putWs ks ws ky w))) (upd H a (.dT ((putKs ks ky).zip xs'))) := Evo.set ea
          exact k _ _ (W.putT ea e2 (e3.mono ev)) ev g2
        | _ => cases ek
      · exact g.elim
    · exact g.elim
  · exact g.elim
/-- d.get(k, x) -/
def isDict (S : Store) : Dt → Bool
  | .dK _ _ | .dT _ _ => true
  | .ref a => match S a with
    | some (.dK _ _) => true
    | some (.dT _ _) => true
    | _ => false
  | _ => false
theorem isDict_of {K : Frg} {P : Hid} {S : Store} {H : Hp} (W : Wd K P S H) {d : Dt} {x : V} (r : Rp K P S H d x) (h : isDict S d = true) : ∃ a, x = .ref a ∧ IsD H a := by
  unfold isDict at h
  split at h
  · unfold Rp at r
    obtain ⟨a, xs, rfl, fz, _⟩ := r
    exact ⟨a, rfl, .inl ⟨_, .inl fz.1⟩⟩
  · unfold Rp at r
    obtain ⟨a, xs, rfl, fz, _⟩ := r
    exact ⟨a, rfl, .inr ⟨_, .inl fz.1⟩⟩
  · rename_i a
    rw [rp_ref] at r
    split at h
    · rename_i ks ws e
      obtain ⟨xs, e2, _⟩ := W.sim a _ e
      exact ⟨a, r, .inl ⟨_, .inl e2⟩⟩
    · rename_i ks ws e
      obtain ⟨xs, e2, _⟩ := W.sim a _ e
      exact ⟨a, r, .inr ⟨_, .inl e2⟩⟩
    · cases h
  · cases h
def mGet2 (md mk mx : ME) : ME := fun σ S Q Ex => md σ S (fun d S1 => isDict S1 d = true ∧ mk σ S1 (fun w S2 => mx σ S2 (fun z S3 => match dlook S3 d w with
  | some o => Q (o.getD z) S3
  | none => False) Ex) Ex) Ex
theorem je_get2 {o e f : Expr} {md mk mx : ME} {apos cpos : Pos} (hu : X.A.units + 64 < cLine) (ho : JE X E o md) (he : JE X E e mk) (hf : JE X E f mx) (m : M2 X o "get" apos e f cpos := by exact ⟨by rfl, by rfl, by rfl, by rfl⟩) :
    JE X E (.Call (.Attribute o "get" apos) [e, f] [] cpos) (mGet2 md mk mx) := PE.weak (pe_dget2 (by omega) ho he hf m) fun σv H Qv q => by
  obtain ⟨P, S, σ, Q, Ex, W, r, m, nq, nx⟩ := q
  refine ⟨P, S, σ, _, Ex, W, r, m, fun v H1 d S1 W1 r1 e1 m1 => ?_, nx⟩
  obtain ⟨a, rfl, isd⟩ := isDict_of W1 r1 m1.1
  refine ⟨a, rfl, isd, P, S1, σ, _, Ex, W1, r.mono e1, m1.2, fun y H2 w S2 W2 r2 e2 m2 => ?_, nx.after e1⟩
  refine ⟨P, S2, σ, _, Ex, W2, r.mono (e1.trans e2), m2, fun z H3 wz S3 W3 r3 e3 m3 => ?_, nx.after (e1.trans e2)⟩
  dsimp only at m3
  split at m3
  · rename_i o eo
    obtain ⟨a', rr, ea, dg, hm⟩ := dlook_of W3 (r1.mono (e2.trans e3)) (r2.mono e3) eo
    cases ea
    refine ⟨rr, dg, ?_⟩
    cases o with
    | none =>
      rw [show rr = none from hm]
      exact nq z H3 wz S3 W3 r3 ((e1.trans e2).trans e3) m3
    | some u =>
      obtain ⟨v', rfl, rv⟩ := hm
      exact nq v' H3 u S3 W3 rv ((e1.trans e2).trans e3) m3
  · exact m3.elim
end
/-! ### targets of comprehensions -/
def BindsG (K : Frg) (g : TG) (vs : List Nat) (b : BW) : Prop := ∀ (P : Hid) (S : Store) (H : Hp) (w : Dt) (v : V) (σ σ' : Env) (σv : L2.St) (R : L2.St → Hp → Prop), Wd K P S H → RpS K P S H σ σv → Rp K P S H w v → b w σ = some σ' →
  (∀ σv', RpS K P S H σ' σv' → σv'.length = σv.length → (∀ j, j ∉ vs → σv'[j]? = σv[j]?) → R σv' H) → g v σv H R
abbrev BWs := List Dt → Env → Option Env
def BindsGs (K : Frg) (g : TGs) (vs : List Nat) (b : BWs) : Prop := ∀ (P : Hid) (S : Store) (H : Hp) (ws : List Dt) (xs : List V) (σ σ' : Env) (σv : L2.St) (R : L2.St → Hp → Prop), Wd K P S H → RpS K P S H σ σv → RpL K P S H ws xs → b ws σ = some σ' →
  (∀ σv', RpS K P S H σ' σv' → σv'.length = σv.length → (∀ j, j ∉ vs → σv'[j]? = σv[j]?) → R σv' H) → g xs σv H R
def bNil : BWs := fun ws σ => match ws with
  | [] => some σ
  | _ => none
def bCons (b : BW) (bs : BWs) : BWs := fun ws σ => match ws with
  | w :: r => match b w σ with
    | some σ1 => bs r σ1
    | none => none
  | [] => none
def bTup (n : Nat) (bs : BWs) : BW := fun w σ => match w with
  | .tup ws => if ws.length = n then bs ws σ else none
  | _ => none
theorem bg_name {K : Frg} {i : Nat} : BindsG K (gName i) [i] (bName i) := fun P S H w v σ σ' σv R W r rw' e k => by
  cases e
  refine k _ (r.set rw') (by rw [List.length_set]) fun j hj => ?_
  rw [List.getElem?_set_ne (fun z => hj (by rw [z]; exact List.mem_singleton.mpr rfl))]
theorem bg_nil {K : Frg} : BindsGs K gNil [] bNil := fun P S H ws xs σ σ' σv R W r rl e k => by
  unfold bNil at e
  split at e
  · cases e
    exact ⟨rl.nilE, k σv r rfl fun _ _ => rfl⟩
  · cases e
theorem bg_cons {K : Frg} {g : TG} {gs : TGs} {vs us : List Nat} {b : BW} {bs : BWs} (h : BindsG K g vs b) (hs : BindsGs K gs us bs) : BindsGs K (gCons g gs) (vs ++ us) (bCons b bs) := fun P S H ws xs σ σ' σv R W r rl e k => by
  unfold bCons at e
  split at e
  · rename_i w t
    obtain ⟨v, xr, rfl, r1, r2⟩ := rl.consE
    split at e
    · rename_i σ1 e1
      refine ⟨v, xr, rfl, h P S H w v σ σ1 σv _ W r r1 e1 fun σv1 q1 l1 k1 => ?_⟩
      refine hs P S H t xr σ1 σ' σv1 _ W q1 r2 e fun σv2 q2 l2 k2 => k σv2 q2 (l2.trans l1) fun j hj => ?_
      rw [List.mem_append, not_or] at hj
      rw [k2 j hj.2, k1 j hj.1]
    · cases e
  · cases e
theorem bg_tup {K : Frg} {n : Nat} {gs : TGs} {vs : List Nat} {bs : BWs} (hs : BindsGs K gs vs bs) : BindsG K (gTup K n gs) vs (bTup n bs) := fun P S H w v σ σ' σv R W r rw' e k => by
  unfold bTup at e
  split at e
  · rename_i ws
    split at e
    · rename_i hl
      obtain ⟨p, xs, rfl, h1, rl⟩ := rp_tup rw'
      exact ⟨p, xs, rfl, h1, by rw [← rl.length]; exact hl, hs P S H ws xs σ σ' σv R W r rl e k⟩
    · cases e
  · cases e
theorem wipe_get {σ : L2.St} : ∀ {vs : List Nat} {j : Nat}, (L2.wipe σ vs)[j]? = if j ∈ vs then (if j < σ.length then some none else none) else σ[j]?
  | [], j => by simp [L2.wipe]
  | v :: vs, j => by
    unfold L2.wipe
    by_cases e : v = j
    · subst e
      rw [if_pos List.mem_cons_self]
      by_cases l : v < σ.length
      · rw [if_pos l, List.getElem?_set_self (by rw [L2.wipe_length]; exact l)]
      · rw [if_neg l, List.getElem?_eq_none (by rw [List.length_set, L2.wipe_length]; omega)]
    · rw [List.getElem?_set_ne e, wipe_get (vs := vs)]
      by_cases m : j ∈ vs
      · rw [if_pos m, if_pos (List.mem_cons_of_mem _ m)]
      · rw [if_neg m, if_neg (fun z => (List.mem_cons.mp z).elim (fun q => e q.symm) m)]
theorem binds_of {K : Frg} {g : TG} {vs us : List Nat} {b : BW} (h : BindsG K g us b) (hs : ∀ j ∈ us, j ∈ vs) : Binds1 K g vs b := fun P S H w v σ σ' σv R W r rw' e k => by
  refine h P S H w v (wipeW σ vs) σ' (L2.wipe σv vs) R W (r.wipe vs) rw' e fun σv' q l kk => k σv' q ?_
  apply List.ext_getElem?
  intro j
  rw [wipe_get, wipe_get, l, L2.wipe_length]
  by_cases m : j ∈ vs
  · rw [if_pos m, if_pos m]
  · rw [if_neg m, if_neg m, kk j (fun z => m (hs j z)), wipe_get, if_neg m]
/-! ### new lists: +, slices, [::-1]; sorted of ints -/
section
variable {X : Cx} {E : WX}
def mCatL (ma mb : ME) : ML := fun σ S Q Ex => ma σ S (fun x S1 => mb σ S1 (fun y S2 => match plv S2 x, plv S2 y with
  | some a, some b => a.length + b.length ≤ sizeLine ∧ Q (a ++ b) S2
  | _, _ => False) Ex) Ex
theorem jl_cat {a b : Expr} {ma mb : ME} {pos : Pos} (ha : JE X E a ma) (hb : JE X E b mb) : JL X E (.BinOp a .Add b pos) (mCatL ma mb) := PE.weak (pe_op op_cat ha hb) fun σv H Qv q => by
  obtain ⟨P, S, σ, Q, Ex, W, r, m, nl, nx⟩ := q
  refine ⟨P, S, σ, _, Ex, W, r, m, fun v H1 x S1 W1 r1 e1 m1 => ?_, nx⟩
  refine ⟨P, S1, σ, _, Ex, W1, r.mono e1, m1, fun u H2 y S2 W2 r2 e2 m2 => ?_, nx.after e1⟩
  dsimp only at m2
  split at m2
  · rename_i as bs ea eb
    obtain ⟨p, xs, rfl, h1, rl1⟩ := plv_of W2 (r1.mono e2) ea
    obtain ⟨q, ys, rfl, h2, rl2⟩ := plv_of W2 r2 eb
    exact ⟨p, q, xs, ys, rfl, rfl, h1, h2, by rw [← rl1.length, ← rl2.length]; exact m2.1, fun p hp => nl p H2 _ _ _ S2 W2 hp rfl (rl1.append rl2) (e1.trans e2) m2.2⟩
  · exact m2.elim
def mSlL (ma : ME) (ml mh : MO) : ML := fun σ S Q Ex => ma σ S (fun x S1 => ml σ S1 (fun lo S2 => mh σ S2 (fun hi S3 => match lsv S3 x with
  | some ws => Q (cutW ws lo hi) S3
  | none => False) Ex) Ex) Ex
theorem jl_slice {a : Expr} {lo hi : Option Expr} {ma : ME} {ml mh : MO} {pos p2 : Pos} (ha : JE X E a ma) (hl : JO X E lo ml) (hh : JO X E hi mh) : JL X E (.Subscript a (.Slice lo hi none p2) pos) (mSlL ma ml mh) := PE.weak (pe_slice sl_list ha hl hh) fun σv H Qv q => by
  obtain ⟨P, S, σ, Q, Ex, W, r, m, nl, nx⟩ := q
  refine ⟨P, S, σ, _, Ex, W, r, m, fun v H1 x S1 W1 r1 e1 m1 => ?_, nx⟩
  refine ⟨P, S1, σ, _, Ex, W1, r.mono e1, m1, fun l H2 S2 W2 e2 m2 => ?_, nx.after e1⟩
  refine ⟨P, S2, σ, _, Ex, W2, r.mono (e1.trans e2), m2, fun u H3 S3 W3 e3 m3 => ?_, nx.after (e1.trans e2)⟩
  dsimp only at m3
  split at m3
  · rename_i ws e
    obtain ⟨p, xs, rfl, h1, rl⟩ := lsv_of W3 (r1.mono (e2.trans e3)) e
    exact ⟨p, xs, rfl, h1, fun q hq => nl q H3 _ _ _ S3 W3 hq rfl (cut_rp rl) ((e1.trans e2).trans e3) m3⟩
  · exact m3.elim
def mRevL (ma : ME) : ML := fun σ S Q Ex => ma σ S (fun x S1 => match lsv S1 x with
  | some ws => Q ws.reverse S1
  | none => False) Ex
theorem rev_rp {K : Frg} {P : Hid} {S : Store} {H : Hp} : ∀ {ws : List Dt} {xs : List V}, RpL K P S H ws xs → RpL K P S H ws.reverse xs.reverse
  | [], xs, h => by
    rw [h.nilE]
    exact RpL.nil
  | w :: ws, xs, h => by
    obtain ⟨v, r, rfl, a, b⟩ := h.consE
    rw [List.reverse_cons, List.reverse_cons]
    exact (rev_rp b).append (RpL.cons a RpL.nil)
theorem jl_rev {a : Expr} {ma : ME} {k : Nat} {p1 p2 p3 pos : Pos} (ha : JE X E a ma) : JL X E (.Subscript a (.Slice none none (some (.UnaryOp .USub (.Constant (.int 1) k p1) p2)) p3) pos) (mRevL ma) := PE.weak (pe_revL ha) fun σv H Qv q => by
  obtain ⟨P, S, σ, Q, Ex, W, r, m, nl, nx⟩ := q
  refine ⟨P, S, σ, _, Ex, W, r, m, fun v H1 x S1 W1 r1 e1 m1 => ?_, nx⟩
  dsimp only at m1
  split at m1
  · rename_i ws e
    obtain ⟨p, xs, rfl, h1, rl⟩ := lsv_of W1 r1 e
    exact ⟨p, xs, rfl, h1, fun q hq => nl q H1 _ _ _ S1 W1 hq rfl (rev_rp rl) e1 m1⟩
  · exact m1.elim
/-- sorted ints -/
def sortZ (ns : List Int) : List Int := ns.mergeSort fun a b => decide (a ≤ b)
theorem sortZ_of {ns ns' : List Int} (hp : ns'.Perm ns) (hs : ns'.Pairwise (· ≤ ·)) : ns' = sortZ ns := by
  have h2 : (sortZ ns).Pairwise (fun a b => decide (a ≤ b) = true) := List.pairwise_mergeSort (fun a b c => by simp; omega) (fun a b => by simp; omega) ns
  have h3 : (sortZ ns).Pairwise (· ≤ ·) := h2.imp fun h => by simpa using h
  exact List.Perm.eq_of_pairwise (fun a b _ _ h1 h2 => Int.le_antisymm h1 h2) hs h3 (hp.trans (List.mergeSort_perm ns _).symm)
def pySortedI : List Dt → Store → (List Dt → Store → Prop) → Prop
  | [w], S, Q => match lsv S w with
    | some ws => ∃ ns : List Int, ws = ns.map Dt.int ∧ Q ((sortZ ns).map Dt.int) S
    | none => False
  | _, _, _ => False
theorem c_sortedI : CallR X (.builtin "sorted") (rdNL X.K pySortedI) := by
  intro pins s σ H vs us Qv I rv h
  obtain ⟨P, S, ws, Q, W, r, g, nl⟩ := h
  unfold pySortedI at g
  split at g
  · rename_i w
    obtain ⟨v, rfl, r1⟩ := r.one
    split at g
    · rename_i us' e
      obtain ⟨ns, rfl, g⟩ := g
      obtain ⟨a, xs, rfl, h1, rl⟩ := lsv_of W r1 e
      rw [rl.mapInt] at h1
      refine cr_sortedI pins s σ H _ us Qv I rv ⟨a, ns, rfl, h1, fun ns' p hp hs hn => ?_⟩
      rw [sortZ_of hp hs]
      exact nl p _ _ _ hn rfl RpL.ofInt g
    · exact g.elim
  · exact g.elim
theorem jl_callB {x : Str} {id : String} {e : Expr} {es : List Expr} {g : List Dt → Store → (List Dt → Store → Prop) → Prop} {ma : MA} {p pos : Pos} (hc : CallR X (.builtin id) (rdNL X.K g)) (hg : Gl X x) (hm : X.mg x = none) (hv : bootBuiltins x = some (.builtin id)) (ha : JA X E (e :: es) ma)
    (hn : x ≠ "__name__" := by decide) (hdb : (x == ("__debug__" : Str)) = false := by decide) (he : starEach (e :: es) X.env = (false, eval e X.env) :: starEach es X.env := by rfl) (hpl : (backTo pos (starEach es X.env)).any (·.1) = false := by rfl) :
    JL X E (.Call (.Name x p) (e :: es) [] pos) (mFnL g ma) := PE.weak (pe_callB hc hg hm hv ha hn hdb he hpl) fun σv H Qv q => by
  obtain ⟨P, S, σ, Q, Ex, W, r, m, nl, nx⟩ := q
  exact ⟨P, S, σ, _, Ex, W, r, m, fun vs H1 ws S1 W1 r1 e1 m1 => ⟨P, S1, ws, Q, W1, r1, m1, fun p H2 ys us hp e2 rl q2 => nl p H1 H2 ys us S1 W1 hp e2 rl e1 q2⟩, nx⟩
/-! ### methods of texts -/
def pyCount : Dt → OpN
  | .str a, [.str b], S, Q => Q (.int (Txt.count a b)) S
  | _, _, _, _ => False
theorem m_count : MtR X "str.count" (rdM X.K pyCount) := by
  intro pins s σ H x vs v us Qv I rx rv h
  obtain ⟨P, S, w, ws, Q, W, r1, r2, g, nq⟩ := h
  unfold pyCount at g
  split at g
  · obtain ⟨y, rfl, r3⟩ := r2.one
    rw [rp_str] at r1 r3
    subst r1 r3
    exact mt_count pins s σ H _ _ v us Qv I rx rv ⟨_, _, rfl, rfl, nq.now W rpInt g⟩
  · exact g.elim
def strsW (ys : List Str) : List Dt := ys.map Dt.str
theorem strs_rp {K : Frg} {P : Hid} {S : Store} {H : Hp} : ∀ {ys : List Str} {xs : List V}, RpL K P S H (strsW ys) xs → xs = ys.map V.str
  | [], xs, h => h.nilE
  | y :: ys, xs, h => by
    obtain ⟨v, t, rfl, h1, h2⟩ := RpL.consE (w := .str y) (ws := strsW ys) h
    rw [rp_str] at h1
    rw [h1, strs_rp h2]
    rfl
def pyJoin : Dt → OpN
  | .str a, [w], S, Q => (match w with
    | .tup ws => ∃ ys, ws = strsW ys ∧ (ys.map (·.length)).sum + ys.length * a.length ≤ 16777216 ∧ Q (.str (Txt.join a ys)) S
    | w => match lsv S w with
      | some ws => ∃ ys, ws = strsW ys ∧ (ys.map (·.length)).sum + ys.length * a.length ≤ 16777216 ∧ Q (.str (Txt.join a ys)) S
      | none => False)
  | _, _, _, _ => False
theorem m_join : MtR X "str.join" (rdM X.K pyJoin) := by
  intro pins s σ H x vs v us Qv I rx rv h
  obtain ⟨P, S, w, ws, Q, W, r1, r2, g, nq⟩ := h
  unfold pyJoin at g
  split at g
  · obtain ⟨y, rfl, r3⟩ := r2.one
    rw [rp_str] at r1
    subst r1
    split at g
    · obtain ⟨ys, rfl, g1, g2⟩ := g
      obtain ⟨p, xs, rfl, h1, rl⟩ := rp_tup r3
      rw [strs_rp rl] at h1
      exact mt_join pins s σ H _ _ v us Qv I rx rv ⟨_, p, ys, rfl, rfl, .inr h1, g1, nq.now W rpStr g2⟩
    · split at g
      · rename_i e
        obtain ⟨ys, rfl, g1, g2⟩ := g
        obtain ⟨p, xs, rfl, h1, rl⟩ := lsv_of W r3 e
        rw [strs_rp rl] at h1
        exact mt_join pins s σ H _ _ v us Qv I rx rv ⟨_, p, ys, rfl, rfl, .inl h1, g1, nq.now W rpStr g2⟩
      · exact g.elim
  · exact g.elim
end
end Dn

/-! dict comprehensions whose keys are tuples of ints and texts -/
namespace Dn
open PySem PySem.Spec PyProof.Rows L2
/-- a key more, by a comprehension -/
theorem dt_put {X : Cx} {pins : List (Addr × Obj)} {τ : L2.St} {H : Hp} {s : Shared} {E : Value → Shared → Prop} {d b : Addr} {es : List (List Key × V)} {ky : List Key} {v : V} {u r : Value} {Q : Unit → Shared → Prop} (hu : X.A.units + 64 < cLine) (I : L2.Inv X pins τ H s)
    (hd : H d = some (.dT es)) (hz : es.length < sizeLine) (hb : H b = some (.tup (ky.map kV))) (ry : RelV (.ref b) u) (rv : RelV v r) (h : ∀ s', L2.Inv X pins τ (upd H d (.dT (putK es ky v))) s' → Q () s') :
    wpAny (model X.prog X.w) X.A (dictSet d u r) Q E s := by
  cases ry
  obtain ⟨z, nosys, xs, rel, dd⟩ := dt_of I.hok hd
  have hx : xs.length ≤ sizeLine := by rw [← Paired.length rel]; exact z
  have hp : (putK es ky v).length ≤ sizeLine := by have := length_putK es ky v; omega
  refine wpAny_dictSet_heap (hsz := hx) (show (tupleKind _).room X.A from Nat.lt_of_le_of_lt (Nat.le_add_right _ _) hu) (key_of I.hok hb) dd fun h' dd' same => h _ ?_
  obtain ⟨q, es', ep, hq, h2, h3, h4, _, h5⟩ := dd'
  refine d_write I (by rw [hd]; exact True.intro) same ⟨q, hq⟩ ⟨hp, nosys, _, (rel.put ky hb rv).keeps fun c ys ec => ?_, q, es', ep, hq, h2, h3, h4, h5⟩
  have ne : c ≠ d := ne_of ec hd fun z => nomatch z
  rw [upd_ne ne]
  exact ec
/-- the reading: D the dict that is made -/
def tDct (wi : TI) (g : TG) (tt : TT) (tk tv : TE) (vs : List Nat) : TE := fun τ H Q => wi τ H fun J H1 => ∀ D, H1 D = none → ∃ W : Nat → Nat → Hp → Prop, (∃ m, W 0 m (upd H1 D (.dT []))) ∧ ∀ i m H, W i m H →
  (J.stop i H ∧ Q (.ref D) H) ∨ (J.go i H ∧ ∃ Nx : Hp → Prop, (∀ H', Nx H' → ∃ m', m' < m ∧ W (i + 1) m' H') ∧ ∀ x H', J.yld i H x H' → g x (L2.wipe τ vs) H' fun τ2 H2 => L2.wipe τ2 vs = L2.wipe τ vs ∧ tt τ2 H2 fun c H3 =>
    if c = true then tk τ2 H3 fun y H4 => tv τ2 H4 fun z H5 => ∃ es ky b, y = .ref b ∧ H5 b = some (.tup (ky.map kV)) ∧ H5 D = some (.dT es) ∧ es.length < sizeLine ∧ Nx (upd H5 D (.dT (putK es ky z))) else Nx H3)
section
variable {X : Cx}
theorem pe_dct {kx vx tg iter : Expr} {ifs : List Expr} {scope : Scope} {own : List (Str × Nat)} {pos : Pos} {wi : TI} {g : TG} {tt : TT} {tk tv : TE} (hu : X.A.units + 64 < cLine) (hc : X.calm = true) (hN : X.N.Nodup) (hi : PI X tg iter wi) (ok : BlkOk X.N X.env.scope scope own)
    (hg : ∀ (s : Shared) (H : Hp) (C : Addr) (cl : List (Str × Addr)) (fp : List Addr), PG (X.blk s H scope (compEnvC scope cl C X.env) fp) tg g)
    (ht : ∀ (s : Shared) (H : Hp) (C : Addr) (cl : List (Str × Addr)) (fp : List Addr), PTs (X.blk s H scope (compEnvC scope cl C X.env) fp) ifs tt)
    (hk : ∀ (s : Shared) (H : Hp) (C : Addr) (cl : List (Str × Addr)) (fp : List Addr), PE (X.blk s H scope (compEnvC scope cl C X.env) fp) kx tk)
    (he : ∀ (s : Shared) (H : Hp) (C : Addr) (cl : List (Str × Addr)) (fp : List Addr), PE (X.blk s H scope (compEnvC scope cl C X.env) fp) vx tv)
    (hs : ∀ x, foldedSetIterable iter X.env x = pure x := by intro _; rfl) :
    PE X (.DictComp kx vx [⟨tg, iter, ifs, 0⟩] scope pos) (tDct wi g tt tk tv (own.map (·.2))) := by
  refine ⟨fun pins s τ H Q I hyp => ?_⟩
  rw [arm_eval_DictComp]
  refine wpAny_comprehension_free (use := none) rfl hs (closure_ok fun y hy e => (ok.free y hy e).elim (fun k => I.ok.has _ (.inl k)) fun k => I.ok.has _ (.inr k)) ok.kind (fun y hy e => by rw [ok.uniq y hy, e]) ?_
  refine thn (hi.run pins s τ H _ I hyp) fun xv sa ha => thn ha fun itv sb hb => ?_
  obtain ⟨it, fp, tn, J, Hb, rfl, Ib, T, tb, fb, rest⟩ := hb
  refine wpAny_newObj_type (newEnv_comp ?_)
  generalize eD : sb.heap.objs.size = D
  obtain ⟨W, ⟨m0, start⟩, turn⟩ := rest D (Ib.hok.fresh (Nat.le_of_eq eD))
  generalize es : ({ sb with heap := sb.heap.push { cls := .type "dict", data := .dict #[] } } : Shared) = sc
  have hsc : sc.heap = sb.heap.push { cls := .type "dict", data := .dict #[] } := by rw [← es]
  have Ic : L2.Inv X pins τ (upd Hb D (.dT [])) sc := by
    subst es
    refine Ib.laid (t' := sb.toks) (fun b o e => Heap.get?_push_of_some _ e) (Nat.le_of_eq eD) ?_
    subst eD
    exact dt_empty sb.heap Ib.big
  have small : ∀ b ∈ fp, b < sb.heap.objs.size := fun b hb => let ⟨o, e, _⟩ := T.obj _ _ tb b hb; Heap.lt_size e
  have fc : ∀ b ∈ fp, FpOk X pins (upd Hb D (.dT [])) b ∧ b < sc.heap.objs.size := fun b hb => by
    have l := small b hb
    have ne : b ≠ D := by rw [← eD]; exact Nat.ne_of_lt l
    exact ⟨⟨by rw [upd_ne ne]; exact (fb b hb).1, (fb b hb).2⟩, by rw [hsc, Heap.size_push]; exact Nat.lt_succ_of_lt l⟩
  have tc : tn 0 sc.heap := T.keep _ _ _ tb fun b _ o e => by rw [hsc]; exact Heap.get?_push_of_some _ e
  have Id := block_start Ic ok hN fc
  have pg := hg sc (upd Hb D (.dT [])) sc.heap.objs.size (cellsFrom (sc.heap.objs.size + 1) scope.names (cloFrom X.env.cells scope.names [])) fp
  have pt := ht sc (upd Hb D (.dT [])) sc.heap.objs.size (cellsFrom (sc.heap.objs.size + 1) scope.names (cloFrom X.env.cells scope.names [])) fp
  have pk := hk sc (upd Hb D (.dT [])) sc.heap.objs.size (cellsFrom (sc.heap.objs.size + 1) scope.names (cloFrom X.env.cells scope.names [])) fp
  have pv := he sc (upd Hb D (.dT [])) sc.heap.objs.size (cellsFrom (sc.heap.objs.size + 1) scope.names (cloFrom X.env.cells scope.names [])) fp
  generalize ec : compEnvC scope (cellsFrom (sc.heap.objs.size + 1) scope.names (cloFrom X.env.cells scope.names [])) sc.heap.objs.size X.env = ce at Id pg pt pk pv
  have eL : ce.locals = sc.heap.objs.size := by subst ec; rfl
  have goal : codeAny (model X.prog X.w) X.A (.compStart (.DictComp kx vx [⟨tg, iter, ifs, 0⟩] scope pos) 0 (.ref it) (.ref D) ce) (compPost (model X.prog X.w) X.A X.xe none (EP X pins τ Q) (.ref D) sc.heap.objs.size) { sc with heap := pushCells (sc.heap.push { cls := .type "dict", data := .dict #[] }) scope.names } := by
    have empty : ∀ b ∈ fp, (upd Hb D (.dT [])) b = none := fun b hb => (fc b hb).1.1
    generalize eH : upd Hb D (.dT []) = Hc at Ic Id pg pt pk pv start empty fc
    generalize ed : ({ sc with heap := pushCells (sc.heap.push { cls := .type "dict", data := .dict #[] }) scope.names } : Shared) = sd at Id ⊢
    have td : tn 0 sd.heap := T.keep _ _ _ tc fun b _ o e => by rw [← ed]; exact pushCells_keeps _ _ _ _ (Heap.get?_push_of_some _ e)
    have stat : ∀ {τ' : L2.St} {H' : Hp} {s' : Shared}, L2.Inv (X.blk sc Hc scope ce fp) [] τ' H' s' → (∀ b ∈ fp, H' b = none) → ∀ b ∈ fp, FpOk (X.blk sc Hc scope ce fp) [] H' b := fun {τ' H' s'} I' n b hb =>
      ⟨n b hb, (I'.ok.exf b hb).1, I'.ok.exfs b hb, .inl hb, fun x c e => (I'.ok.exf b hb).2 x c e, fun p hp => by cases hp⟩
    refine codeAny_compStart_dict ?loop (T.self X.A 0 _ _ _ td ?loop)
    refine compLoop_anyD (fun n s' => ∃ i H', L2.Inv (X.blk sc Hc scope ce fp) [] (L2.wipe τ (own.map (·.2))) H' s' ∧ tn i s'.heap ∧ (∀ b ∈ fp, H' b = none) ∧ W i n H') ?_ m0 ⟨0, Hc, Id, td, empty, start⟩
    rintro n s5 ⟨i, H5, I5, t5, n5, w5⟩
    rcases turn i n H5 w5 with ⟨stop, fin⟩ | ⟨go, Nx, dec, step⟩
    · refine thnF (T.done (X.blk sc Hc scope ce fp) rfl rfl rfl hc i [] s5 _ H5 (fun _ _ => False) I5 (stat I5 n5) t5 stop) fun r s6 ⟨hr, I6⟩ => ?_
      subst hr
      have back : L2.Inv X pins τ H5 s6 := Ic.call' (ch := fp) I6.os I6.base I6.hok I6.bare fun b hb => ⟨(fc b hb).1.2.2.2.1, (fc b hb).1.2.1, (fc b hb).1.2.2.2.2.1, (fc b hb).1.2.2.2.2.2⟩
      have nC : H5 sc.heap.objs.size = none := eL ▸ (show H5 ce.locals = none from I6.free)
      obtain ⟨m, hm, _⟩ := I6.loc
      have hm2 : s6.heap.Ns sc.heap.objs.size m := eL ▸ (show s6.heap.Ns ce.locals m from hm)
      refine ⟨m, hm2, fun h'' same => ?_⟩
      obtain ⟨f0, f1, f2, f3, f4, f5⟩ := Ic.fpOk (Nat.le_refl _) nC
      exact ⟨.ref D, H5, back.turned (t' := s6.toks) (fun b o hb e => (same.2 b hb).trans e) f0 f1 f3 f4 f5, rfl, fin⟩
    · refine thnF (T.item (X.blk sc Hc scope ce fp) rfl rfl rfl hc i [] s5 _ H5 (fun _ _ => False) I5 (stat I5 n5) t5 go) fun r s6 ⟨u, hr, h6⟩ => ?_
      subst hr
      refine thnF h6 fun _ s7 ⟨x, H7, I7, r7, y7, t7, n7⟩ => ?_
      refine thnF (pg.run _ s7 _ H7 x u _ (I7.pinned (stat I7 n7) (T.obj _ _ t7)) r7 (step x H7 y7)) fun _ s8 ⟨τ8, H8, I8, hw, q8⟩ => ?_
      refine thnF (pt.run _ s8 τ8 H8 _ I8 q8) fun c s9 ⟨H9, I9, q9⟩ => ?_
      have again : ∀ {s' : Shared} {H' : Hp}, L2.Inv (X.blk sc Hc scope ce fp) ([] ++ pinsAt fp s7.heap) τ8 H' s' → Nx H' → ∃ m, m < n ∧ ∃ i H', L2.Inv (X.blk sc Hc scope ce fp) [] (L2.wipe τ (own.map (·.2))) H' s' ∧ tn i s'.heap ∧ (∀ b ∈ fp, H' b = none) ∧ W i m H' := fun {s' H'} I' nx => by
        obtain ⟨m', lt, w'⟩ := dec H' nx
        have pin : ∀ b ∈ fp, ∀ o, s7.heap.get? b = some o → s'.heap.get? b = some o ∧ H' b = none := fun b hb o e => by
          have z := I'.pin (b, o) (List.mem_append_right _ (List.mem_append_right _ (mem_pinsAt hb e)))
          exact ⟨z.1, z.2.1⟩
        have len : (L2.wipe τ (own.map (·.2))).length = τ8.length := by rw [← hw, L2.wipe_length]
        refine ⟨m', lt, i + 1, H', (I'.unpinned (pins := [])).weak len (fun j v e => (wipe_some (hw.symm ▸ e)).1), T.keep _ _ _ t7 fun b hb o e => (pin b hb o e).1, fun b hb => ?_, w'⟩
        obtain ⟨o, e, _⟩ := T.obj _ _ t7 b hb
        exact (pin b hb o e).2
      cases c with
      | false => exact again I9 q9
      | true =>
        refine thnF (pk.run _ s9 τ8 H9 _ I9 q9) fun kv s10 ⟨yk, H10, I10, r10, q10⟩ => ?_
        refine thnF (pv.run _ s10 τ8 H10 _ I10 q10) fun vv s11 ⟨yv, H11, I11, r11, es, ky, b, ek, eb, eD2, hz, nx⟩ => ?_
        subst ek
        exact dt_put (X := X.blk sc Hc scope ce fp) hu I11 eD2 hz eb r10 r11 fun s12 I12 => again I12 nx
  subst ec
  exact goal
end
/-- the turns of a dict comprehension -/
def dcompWT (b : BW) (mt : MT) (mk mv : ME) (σ : Env) (vs : List Nat) (gd : Store → Prop) (Q : List (List Key) → List Dt → Store → Prop) : List Dt → List (List Key) → List Dt → Store → Prop
  | [], ks, acc, S => gd S ∧ Q ks acc S
  | w :: ws, ks, acc, S => gd S ∧ match b w (wipeW σ vs) with
    | some σ1 => mt σ1 S (fun c S2 => br c (mk σ1 S2 (fun x S3 => mv σ1 S3 (fun y S4 => match tkeyW x with
        | some k => ks.length < sizeLine ∧ dcompWT b mt mk mv σ vs gd Q ws (putKs ks k) (putWs ks acc k y) S4
        | none => False) (fun _ _ => False)) (fun _ _ => False)) (dcompWT b mt mk mv σ vs gd Q ws ks acc S2)) (fun _ _ => False)
    | none => False
def mDcompT (mi : MI) (b : BW) (mt : MT) (mk mv : ME) (vs : List Nat) : MDT := fun σ S Q Ex => mi σ S (fun ws gd S1 => dcompWT b mt mk mv σ vs gd Q ws [] [] S1) Ex
theorem dcomp_weakT {K : Frg} {E : WX} {mi : MI} {g : TG} {b : BW} {mt : MT} {mk mv : ME} {vs : List Nat} (hb : Binds1 K g vs b) {σv : L2.St} {H : Hp} {Qv : VK} (h : rdDT K E (mDcompT mi b mt mk mv vs) σv H Qv) :
    tDct (rdI K E mi) g (rdT K (fun _ _ _ _ => False) mt) (rdE K (fun _ _ _ _ => False) mk) (rdE K (fun _ _ _ _ => False) mv) vs σv H Qv := by
  obtain ⟨P, S, σ, Q, Ex, W, r, m, nl, nx⟩ := h
  refine ⟨P, S, σ, _, Ex, W, r, m, fun J H1 ws gd S1 W1 e1 dl m1 => ?_, nx⟩
  intro Dl hD
  have hp : ∀ b, (P b ∨ b = Dl) → P b ∨ H1 b = none := fun b h => h.imp id fun z => by rw [z]; exact hD
  have nD : ∀ {a o}, H1 a = some o → a ≠ Dl := fun h z => by rw [z, hD] at h; cases h
  refine ⟨fun i k H2 => ∃ S2 us ks acc xs, Wd K (fun b => P b ∨ b = Dl) S2 H2 ∧ Evo S1 H1 S2 H2 ∧ H2 Dl = some (.dT (ks.zip xs)) ∧ ks.length = acc.length ∧ RpL K (fun b => P b ∨ b = Dl) S2 H2 acc xs ∧ us = ws.drop i ∧ k = us.length ∧ i ≤ ws.length ∧ dcompWT b mt mk mv σ vs gd Q us ks acc S2,
    ⟨ws.length, S1, ws, [], [], [], hide W1 hD, Evo.new hD, upd_same, rfl, RpL.nil, rfl, rfl, Nat.zero_le _, m1⟩, ?_⟩
  rintro i k H2 ⟨S2, us, ks, acc, xs, W2, e2, hx, hlen, rl, eu, ek, hi, f⟩
  have sD : S2 Dl = none := (W2.hid Dl (.inr rfl)).1
  have zl : (ks.zip xs).length = ks.length := by rw [List.length_zip, ← rl.length, ← hlen, Nat.min_self]
  cases us with
  | nil =>
    unfold dcompWT at f
    have hl : ws.length ≤ i := by
      have := congrArg List.length eu
      simp at this
      omega
    refine .inl ⟨(dl _ S2 H2 i hp W2 e2 f.1).2 hl, ?_⟩
    have ev : Evo S1 (upd H1 Dl (.dT [])) S2 (upd H2 Dl (.dT [])) := fun a o n h => by
      by_cases z : a = Dl
      · subst z
        rw [upd_same] at h ⊢
        exact ⟨h, sD⟩
      · rw [upd_ne z] at h ⊢
        exact e2 a o n h
    have c : ∀ a o, H2 a = some o → S2 a = none → ¬ (P a ∨ a = Dl) → hdel H2 Dl a = some o ∧ S2 a = none ∧ ¬ P a := fun a o h n q => ⟨by unfold hdel; rw [if_neg fun z => q (.inr z)]; exact h, n, fun z => q (.inl z)⟩
    have fr := W1.free hD
    have dn : ∀ {a : Addr}, a ≠ Dl → hdel H2 Dl a = H2 a := fun {a} z => by unfold hdel; rw [if_neg z]
    refine nl Dl (hdel H2 Dl) H2 xs ks acc S2 ⟨fun a o e => ?_, fun a q => ?_⟩ (by unfold hdel; rw [if_pos rfl]) ?_ hlen (rl.conv c) (e1.trans fun a o n h => ?_) f.2
    · exact (W2.sim a o e).conv c fun u hu => by rw [dn fun z => by rw [z, sD] at e; cases e]; exact hu
    · obtain ⟨h1, u, h2⟩ := W2.hid a (.inl q)
      exact ⟨h1, u, by rw [dn fun z => fr.2 (z ▸ q)]; exact h2⟩
    · funext a
      by_cases z : a = Dl
      · rw [z, upd_same]; exact hx
      · rw [upd_ne z, dn z]
    · obtain ⟨h1, h2⟩ := e2 a o n h
      exact ⟨by rw [dn (nD h)]; exact h1, h2⟩
  | cons w us =>
    unfold dcompWT at f
    have ew : ws[i]? = some w := by
      have := congrArg List.head? eu
      rw [List.head?_cons, List.head?_drop] at this
      exact this.symm
    have hil : i < ws.length := (List.getElem?_eq_some_iff.mp ew).1
    have eu2 : us = ws.drop (i + 1) := by
      have := congrArg List.tail eu
      rw [List.tail_cons, List.tail_drop] at this
      exact this
    obtain ⟨hgo, hy⟩ := (dl _ S2 H2 i hp W2 e2 f.1).1 w ew
    refine .inr ⟨hgo, fun H' => ∃ S3 ks' acc' xs', Wd K (fun b => P b ∨ b = Dl) S3 H' ∧ Evo S1 H1 S3 H' ∧ H' Dl = some (.dT (ks'.zip xs')) ∧ ks'.length = acc'.length ∧ RpL K (fun b => P b ∨ b = Dl) S3 H' acc' xs' ∧ dcompWT b mt mk mv σ vs gd Q us ks' acc' S3, fun H' hN => ?_, fun x H' hx' => ?_⟩
    · obtain ⟨S3, ks', acc', xs', W3, e3, h3, l3, rl3, f3⟩ := hN
      exact ⟨us.length, by rw [ek, List.length_cons]; omega, S3, us, ks', acc', xs', W3, e3, h3, l3, rl3, eu2, rfl, hil, f3⟩
    · obtain ⟨W3, e3, r3⟩ := hy x H' hx'
      have f2 := f.2
      split at f2
      · rename_i σ1 eb
        have rs : RpS K (fun b => P b ∨ b = Dl) S2 H' σ σv := ⟨r.1, fun j z q => by
          obtain ⟨v, a, b⟩ := (r.mono e1).2 j z q
          exact ⟨v, a, rp_live hp (e2.trans e3) b⟩⟩
        refine hb _ S2 H' w x σ σ1 σv _ W3 rs r3 eb fun σv' rs' ewp => ⟨ewp, _, S2, σ1, _, _, W3, rs', f2, fun cc H4 S4 W4 e4 q4 => ?_, fun _ _ _ _ _ _ _ _ q => q.elim⟩
        have h4 : H4 Dl = some (.dT (ks.zip xs)) ∧ S4 Dl = none := (e3.trans e4) Dl _ sD hx
        cases cc with
        | true =>
          refine ⟨_, S4, σ1, _, _, W4, rs'.mono e4, q4, fun y H5 wy S5 W5 r5 e5 q5 => ?_, fun _ _ _ _ _ _ _ _ q => q.elim⟩
          refine ⟨_, S5, σ1, _, _, W5, rs'.mono (e4.trans e5), q5, fun z H6 wz S6 W6 r6 e6 q6 => ?_, fun _ _ _ _ _ _ _ _ q => q.elim⟩
          have h6 := (e5.trans e6) Dl _ h4.2 h4.1
          split at q6
          · rename_i ky eky
            have rl6 := rl.mono (((e3.trans e4).trans e5).trans e6)
            obtain ⟨xs', p1, p2, p3⟩ := put_zip ky hlen rl6 r6
            have c6 : ∀ a o, H6 a = some o → S6 a = none → ¬ (P a ∨ a = Dl) → upd H6 Dl (.dT ((putKs ks ky).zip xs')) a = some o ∧ S6 a = none ∧ ¬ (P a ∨ a = Dl) := fun a o h n q => ⟨by rw [upd_ne fun z => q (.inr z)]; exact h, n, q⟩
            obtain ⟨us6, rfl⟩ : ∃ us6, wy = .tup us6 := by
              cases wy with
              | tup us6 => exact ⟨us6, rfl⟩
              | _ => cases eky
            have r56 := r5.mono e6
            unfold Rp at r56
            obtain ⟨bb, zs, rfl, fz, rz⟩ := r56
            have ez := keysW_V rz eky
            subst ez
            refine ⟨ks.zip xs, ky, bb, rfl, fz.1, h6.1, by rw [zl]; exact q6.1, ?_⟩
            rw [p1]
            refine ⟨S6, putKs ks ky, putWs ks acc ky wz, xs', ⟨fun a o e => ?_, fun a q => ?_⟩, fun a o n h => ?_, upd_same, p2, p3.conv c6, q6.2⟩
            · exact (W6.sim a o e).conv c6 fun u hu => by rw [upd_ne fun z => by rw [z, h6.2] at e; cases e]; exact hu
            · by_cases z : a = Dl
              · rw [z]; exact ⟨h6.2, _, upd_same⟩
              · obtain ⟨h1, u, h2⟩ := W6.hid a q
                exact ⟨h1, u, by rw [upd_ne z]; exact h2⟩
            · obtain ⟨h1, h2⟩ := ((((e2.trans e3).trans e4).trans e5).trans e6) a o n h
              exact ⟨by rw [upd_ne (nD h)]; exact h1, h2⟩
          · exact q6.elim
        | false => exact ⟨S4, ks, acc, xs, W4, (e2.trans e3).trans e4, h4.1, hlen, rl.mono (e3.trans e4), q4⟩
      · exact f2.elim
theorem jd_compT {X : Cx} {E : WX} {kx vx tg iter : Expr} {ifs : List Expr} {scope : Scope} {own : List (Str × Nat)} {pos : Pos} {mi : MI} {g : TG} {b : BW} {mt : MT} {mk mv : ME} (hu : X.A.units + 64 < cLine) (hc : X.calm = true) (hN : X.N.Nodup) (hi : JI X E tg iter mi) (ok : BlkOk X.N X.env.scope scope own) (hb : Binds1 X.K g (own.map (·.2)) b)
    (hg : ∀ (s : Shared) (H : Hp) (C : Addr) (cl : List (Str × Addr)) (fp : List Addr), PG (X.blk s H scope (compEnvC scope cl C X.env) fp) tg g)
    (ht : ∀ (s : Shared) (H : Hp) (C : Addr) (cl : List (Str × Addr)) (fp : List Addr), JTs (X.blk s H scope (compEnvC scope cl C X.env) fp) (fun _ _ _ _ => False) ifs mt)
    (hk : ∀ (s : Shared) (H : Hp) (C : Addr) (cl : List (Str × Addr)) (fp : List Addr), JE (X.blk s H scope (compEnvC scope cl C X.env) fp) (fun _ _ _ _ => False) kx mk)
    (he : ∀ (s : Shared) (H : Hp) (C : Addr) (cl : List (Str × Addr)) (fp : List Addr), JE (X.blk s H scope (compEnvC scope cl C X.env) fp) (fun _ _ _ _ => False) vx mv)
    (hs : ∀ x, foldedSetIterable iter X.env x = pure x := by intro _; rfl) : JDT X E (.DictComp kx vx [⟨tg, iter, ifs, 0⟩] scope pos) (mDcompT mi b mt mk mv (own.map (·.2))) :=
  PE.weak (pe_dct (tt := rdT X.K (fun _ _ _ _ => False) mt) (tk := rdE X.K (fun _ _ _ _ => False) mk) (tv := rdE X.K (fun _ _ _ _ => False) mv) hu hc hN hi ok hg ht hk he hs) fun _ _ _ q => dcomp_weakT hb q
/-- the turns of a dict comprehension -/
def dcompWK (b : BW) (mt : MT) (mk mv : ME) (σ : Env) (vs : List Nat) (gd : Store → Prop) (Q : List (Key) → List Dt → Store → Prop) : List Dt → List (Key) → List Dt → Store → Prop
  | [], ks, acc, S => gd S ∧ Q ks acc S
  | w :: ws, ks, acc, S => gd S ∧ match b w (wipeW σ vs) with
    | some σ1 => mt σ1 S (fun c S2 => br c (mk σ1 S2 (fun x S3 => mv σ1 S3 (fun y S4 => match keyW x with
        | some k => ks.length < sizeLine ∧ dcompWK b mt mk mv σ vs gd Q ws (putKs ks k) (putWs ks acc k y) S4
        | none => False) (fun _ _ => False)) (fun _ _ => False)) (dcompWK b mt mk mv σ vs gd Q ws ks acc S2)) (fun _ _ => False)
    | none => False
def mDcompK (mi : MI) (b : BW) (mt : MT) (mk mv : ME) (vs : List Nat) : MD := fun σ S Q Ex => mi σ S (fun ws gd S1 => dcompWK b mt mk mv σ vs gd Q ws [] [] S1) Ex
theorem dcomp_weakK {K : Frg} {E : WX} {mi : MI} {g : TG} {b : BW} {mt : MT} {mk mv : ME} {vs : List Nat} (hb : Binds1 K g vs b) {σv : L2.St} {H : Hp} {Qv : VK} (h : rdD K E (mDcompK mi b mt mk mv vs) σv H Qv) :
    tDc (rdI K E mi) g (rdT K (fun _ _ _ _ => False) mt) (rdE K (fun _ _ _ _ => False) mk) (rdE K (fun _ _ _ _ => False) mv) vs σv H Qv := by
  obtain ⟨P, S, σ, Q, Ex, W, r, m, nl, nx⟩ := h
  refine ⟨P, S, σ, _, Ex, W, r, m, fun J H1 ws gd S1 W1 e1 dl m1 => ?_, nx⟩
  intro Dl hD
  have hp : ∀ b, (P b ∨ b = Dl) → P b ∨ H1 b = none := fun b h => h.imp id fun z => by rw [z]; exact hD
  have nD : ∀ {a o}, H1 a = some o → a ≠ Dl := fun h z => by rw [z, hD] at h; cases h
  refine ⟨fun i k H2 => ∃ S2 us ks acc xs, Wd K (fun b => P b ∨ b = Dl) S2 H2 ∧ Evo S1 H1 S2 H2 ∧ H2 Dl = some (.dK (ks.zip xs)) ∧ ks.length = acc.length ∧ RpL K (fun b => P b ∨ b = Dl) S2 H2 acc xs ∧ us = ws.drop i ∧ k = us.length ∧ i ≤ ws.length ∧ dcompWK b mt mk mv σ vs gd Q us ks acc S2,
    ⟨ws.length, S1, ws, [], [], [], hide W1 hD, Evo.new hD, upd_same, rfl, RpL.nil, rfl, rfl, Nat.zero_le _, m1⟩, ?_⟩
  rintro i k H2 ⟨S2, us, ks, acc, xs, W2, e2, hx, hlen, rl, eu, ek, hi, f⟩
  have sD : S2 Dl = none := (W2.hid Dl (.inr rfl)).1
  have zl : (ks.zip xs).length = ks.length := by rw [List.length_zip, ← rl.length, ← hlen, Nat.min_self]
  cases us with
  | nil =>
    unfold dcompWK at f
    have hl : ws.length ≤ i := by
      have := congrArg List.length eu
      simp at this
      omega
    refine .inl ⟨(dl _ S2 H2 i hp W2 e2 f.1).2 hl, ?_⟩
    have ev : Evo S1 (upd H1 Dl (.dK [])) S2 (upd H2 Dl (.dK [])) := fun a o n h => by
      by_cases z : a = Dl
      · subst z
        rw [upd_same] at h ⊢
        exact ⟨h, sD⟩
      · rw [upd_ne z] at h ⊢
        exact e2 a o n h
    have c : ∀ a o, H2 a = some o → S2 a = none → ¬ (P a ∨ a = Dl) → hdel H2 Dl a = some o ∧ S2 a = none ∧ ¬ P a := fun a o h n q => ⟨by unfold hdel; rw [if_neg fun z => q (.inr z)]; exact h, n, fun z => q (.inl z)⟩
    have fr := W1.free hD
    have dn : ∀ {a : Addr}, a ≠ Dl → hdel H2 Dl a = H2 a := fun {a} z => by unfold hdel; rw [if_neg z]
    refine nl Dl (hdel H2 Dl) H2 xs ks acc S2 ⟨fun a o e => ?_, fun a q => ?_⟩ (by unfold hdel; rw [if_pos rfl]) ?_ hlen (rl.conv c) (e1.trans fun a o n h => ?_) f.2
    · exact (W2.sim a o e).conv c fun u hu => by rw [dn fun z => by rw [z, sD] at e; cases e]; exact hu
    · obtain ⟨h1, u, h2⟩ := W2.hid a (.inl q)
      exact ⟨h1, u, by rw [dn fun z => fr.2 (z ▸ q)]; exact h2⟩
    · funext a
      by_cases z : a = Dl
      · rw [z, upd_same]; exact hx
      · rw [upd_ne z, dn z]
    · obtain ⟨h1, h2⟩ := e2 a o n h
      exact ⟨by rw [dn (nD h)]; exact h1, h2⟩
  | cons w us =>
    unfold dcompWK at f
    have ew : ws[i]? = some w := by
      have := congrArg List.head? eu
      rw [List.head?_cons, List.head?_drop] at this
      exact this.symm
    have hil : i < ws.length := (List.getElem?_eq_some_iff.mp ew).1
    have eu2 : us = ws.drop (i + 1) := by
      have := congrArg List.tail eu
      rw [List.tail_cons, List.tail_drop] at this
      exact this
    obtain ⟨hgo, hy⟩ := (dl _ S2 H2 i hp W2 e2 f.1).1 w ew
    refine .inr ⟨hgo, fun H' => ∃ S3 ks' acc' xs', Wd K (fun b => P b ∨ b = Dl) S3 H' ∧ Evo S1 H1 S3 H' ∧ H' Dl = some (.dK (ks'.zip xs')) ∧ ks'.length = acc'.length ∧ RpL K (fun b => P b ∨ b = Dl) S3 H' acc' xs' ∧ dcompWK b mt mk mv σ vs gd Q us ks' acc' S3, fun H' hN => ?_, fun x H' hx' => ?_⟩
    · obtain ⟨S3, ks', acc', xs', W3, e3, h3, l3, rl3, f3⟩ := hN
      exact ⟨us.length, by rw [ek, List.length_cons]; omega, S3, us, ks', acc', xs', W3, e3, h3, l3, rl3, eu2, rfl, hil, f3⟩
    · obtain ⟨W3, e3, r3⟩ := hy x H' hx'
      have f2 := f.2
      split at f2
      · rename_i σ1 eb
        have rs : RpS K (fun b => P b ∨ b = Dl) S2 H' σ σv := ⟨r.1, fun j z q => by
          obtain ⟨v, a, b⟩ := (r.mono e1).2 j z q
          exact ⟨v, a, rp_live hp (e2.trans e3) b⟩⟩
        refine hb _ S2 H' w x σ σ1 σv _ W3 rs r3 eb fun σv' rs' ewp => ⟨ewp, _, S2, σ1, _, _, W3, rs', f2, fun cc H4 S4 W4 e4 q4 => ?_, fun _ _ _ _ _ _ _ _ q => q.elim⟩
        have h4 : H4 Dl = some (.dK (ks.zip xs)) ∧ S4 Dl = none := (e3.trans e4) Dl _ sD hx
        cases cc with
        | true =>
          refine ⟨_, S4, σ1, _, _, W4, rs'.mono e4, q4, fun y H5 wy S5 W5 r5 e5 q5 => ?_, fun _ _ _ _ _ _ _ _ q => q.elim⟩
          refine ⟨_, S5, σ1, _, _, W5, rs'.mono (e4.trans e5), q5, fun z H6 wz S6 W6 r6 e6 q6 => ?_, fun _ _ _ _ _ _ _ _ q => q.elim⟩
          have h6 := (e5.trans e6) Dl _ h4.2 h4.1
          split at q6
          · rename_i ky eky
            have rl6 := rl.mono (((e3.trans e4).trans e5).trans e6)
            obtain ⟨xs', p1, p2, p3⟩ := put_zip ky hlen rl6 r6
            have c6 : ∀ a o, H6 a = some o → S6 a = none → ¬ (P a ∨ a = Dl) → upd H6 Dl (.dK ((putKs ks ky).zip xs')) a = some o ∧ S6 a = none ∧ ¬ (P a ∨ a = Dl) := fun a o h n q => ⟨by rw [upd_ne fun z => q (.inr z)]; exact h, n, q⟩
            have ez := keyW_V (r5.mono e6) eky
            refine ⟨ks.zip xs, ky, ez, h6.1, by rw [zl]; exact q6.1, ?_⟩
            rw [p1]
            refine ⟨S6, putKs ks ky, putWs ks acc ky wz, xs', ⟨fun a o e => ?_, fun a q => ?_⟩, fun a o n h => ?_, upd_same, p2, p3.conv c6, q6.2⟩
            · exact (W6.sim a o e).conv c6 fun u hu => by rw [upd_ne fun z => by rw [z, h6.2] at e; cases e]; exact hu
            · by_cases z : a = Dl
              · rw [z]; exact ⟨h6.2, _, upd_same⟩
              · obtain ⟨h1, u, h2⟩ := W6.hid a q
                exact ⟨h1, u, by rw [upd_ne z]; exact h2⟩
            · obtain ⟨h1, h2⟩ := ((((e2.trans e3).trans e4).trans e5).trans e6) a o n h
              exact ⟨by rw [upd_ne (nD h)]; exact h1, h2⟩
          · exact q6.elim
        | false => exact ⟨S4, ks, acc, xs, W4, (e2.trans e3).trans e4, h4.1, hlen, rl.mono (e3.trans e4), q4⟩
      · exact f2.elim
theorem jd_compK {X : Cx} {E : WX} {kx vx tg iter : Expr} {ifs : List Expr} {scope : Scope} {own : List (Str × Nat)} {pos : Pos} {mi : MI} {g : TG} {b : BW} {mt : MT} {mk mv : ME} (hu : X.A.units + 64 < cLine) (hc : X.calm = true) (hN : X.N.Nodup) (hi : JI X E tg iter mi) (ok : BlkOk X.N X.env.scope scope own) (hb : Binds1 X.K g (own.map (·.2)) b)
    (hg : ∀ (s : Shared) (H : Hp) (C : Addr) (cl : List (Str × Addr)) (fp : List Addr), PG (X.blk s H scope (compEnvC scope cl C X.env) fp) tg g)
    (ht : ∀ (s : Shared) (H : Hp) (C : Addr) (cl : List (Str × Addr)) (fp : List Addr), JTs (X.blk s H scope (compEnvC scope cl C X.env) fp) (fun _ _ _ _ => False) ifs mt)
    (hk : ∀ (s : Shared) (H : Hp) (C : Addr) (cl : List (Str × Addr)) (fp : List Addr), JE (X.blk s H scope (compEnvC scope cl C X.env) fp) (fun _ _ _ _ => False) kx mk)
    (he : ∀ (s : Shared) (H : Hp) (C : Addr) (cl : List (Str × Addr)) (fp : List Addr), JE (X.blk s H scope (compEnvC scope cl C X.env) fp) (fun _ _ _ _ => False) vx mv)
    (hs : ∀ x, foldedSetIterable iter X.env x = pure x := by intro _; rfl) : JD X E (.DictComp kx vx [⟨tg, iter, ifs, 0⟩] scope pos) (mDcompK mi b mt mk mv (own.map (·.2))) :=
  PE.weak (pe_dc (tt := rdT X.K (fun _ _ _ _ => False) mt) (tk := rdE X.K (fun _ _ _ _ => False) mk) (tv := rdE X.K (fun _ _ _ _ => False) mv) hc hN hi ok hg ht hk he hs) fun _ _ _ q => dcomp_weakK hb q
end Dn

/-! rules by typed items; floors -/
namespace Dn
open PySem PySem.Spec PyProof.Rows L2
/-- a dict of the store that is changed no more -/
theorem Wk.freezeK {S : Store} {a : Addr} {ks : List Key} {ws : List Dt} (h : S a = some (.dK ks ws)) : Wk (.ref a) S (.dK ks ws) (sdel S a) := ⟨sub_sdel, fun K P H v W r => by
  unfold Rp at r ⊢
  obtain ⟨xs, e, hl, rl⟩ := W.sim a _ h
  exact ⟨a, xs, r, ⟨e, by unfold sdel; rw [if_pos rfl], W.nohid h⟩, hl, rl.sub sub_sdel⟩⟩
theorem clo.frzL {Q : Dt → Store → Prop} {S : Store} {a : Addr} {ws : List Dt} (hn : S a = none) (h : Q (.lst ws) S) : clo Q (.ref a) (sup S a (.lst ws)) :=
  clo.wk (w' := .lst ws) (S' := S) h (by have := Wk.freeze (S := sup S a (.lst ws)) (a := a) sup_same; rwa [sdel_sup hn] at this)
theorem clo.frzK {Q : Dt → Store → Prop} {S : Store} {a : Addr} {ks : List Key} {ws : List Dt} (hn : S a = none) (h : Q (.dK ks ws) S) : clo Q (.ref a) (sup S a (.dK ks ws)) :=
  clo.wk (w' := .dK ks ws) (S' := S) h (by have := Wk.freezeK (S := sup S a (.dK ks ws)) (a := a) sup_same; rwa [sdel_sup hn] at this)
theorem lsv_at {S : Store} {a : Addr} {ws : List Dt} (h : S a = some (.lst ws)) : lsv S (.ref a) = some ws := by
  show (match S a with | some (.lst ws) => some ws | _ => none) = _
  rw [h]
theorem plv_at {S : Store} {a : Addr} {ws : List Dt} (h : S a = some (.lst ws)) : plv S (.ref a) = some ws := by
  show (match S a with | some (.lst ws) => some ws | _ => none) = _
  rw [h]
theorem tyW_at {S : Store} {a : Addr} {ws : List Dt} (h : S a = some (.lst ws)) : tyW "list" S (.ref a) = true := by
  show (lsv S (.ref a)).isSome = true
  rw [lsv_at h]
  rfl
theorem dlook_at {S : Store} {a : Addr} {ks : List Key} {ws : List Dt} {w : Dt} (h : S a = some (.dK ks ws)) : dlook S (.ref a) w = (keyW w).map (lkW ks ws) := by
  show (match S a with | some (.dK ks ws) => (keyW w).map (lkW ks ws) | some (.dT ks ws) => (tkeyW w).map (lkW ks ws) | _ => none) = _
  rw [h]
theorem clo_sub {Q : Dt → Store → Prop} {w : Dt} {S S' : Store} (h : clo Q w S') (s : Sub S' S) : clo Q w S := by
  unfold clo at h ⊢
  obtain ⟨w2, S2, k, q⟩ := h
  exact ⟨w2, S2, (Wk.sub s).trans k, q⟩
/-! ### name = [..] on one line, the name a plain local -/
section
variable {X : Cx} {E : WX}
theorem frz_weak {m : ML} {σv : L2.St} {H : Hp} {Qv : VK} (q : rdE X.K E (mFrz m) σv H Qv) : rdL X.K E m σv H Qv := by
  obtain ⟨P, S, σ, Q, Ex, W, r, m, nq, nx⟩ := q
  refine ⟨P, S, σ, _, Ex, W, r, m, fun p H' H1 xs ws S' W' hp e1 rl ev q => ?_, nx⟩
  subst e1
  refine nq (.ref p) _ (.lst ws) S' (W'.new hp) ?_ (ev.trans (Evo.new hp)) q
  unfold Rp
  exact ⟨p, xs, rfl, Fz.new W' hp, rl.mono (Evo.new hp)⟩
theorem ref_weak {m : ML} {σv : L2.St} {H : Hp} {Qv : VK} (q : rdE X.K E (mRef m) σv H Qv) : rdL X.K E m σv H Qv := by
  obtain ⟨P, S, σ, Q, Ex, W, r, m, nq, nx⟩ := q
  refine ⟨P, S, σ, _, Ex, W, r, m, fun p H' H1 xs ws S' W' hp e1 rl ev q => ?_, nx⟩
  subst e1
  have fr := W'.free hp
  exact nq (.ref p) _ (.ref p) (sup S' p (.lst ws)) (W'.put fr.2 (fun _ => hp) ⟨xs, upd_same, rl.mono (Evo.alloc hp)⟩) rpRef (ev.trans (Evo.alloc hp)) (q p fr.1)
theorem js_lcF {i : Nat} {y : Str} {py : Pos} {elt tg iter : Expr} {ifs : List Expr} {scope : Scope} {own : List (Str × Nat)} {pos spos : Pos} {mi : MI} {g : TG} {b : BW} {mt : MT} {me : ME} (hc : X.calm = true) (hN : X.N.Nodup) (hy : X.N[i]? = some y) (hyl : X.env.scope.names.lookup y = some .local) (hi : JI X E tg iter mi) (ok : BlkOk X.N X.env.scope scope own) (hb : Binds1 X.K g (own.map (·.2)) b)
    (hg : ∀ (s : Shared) (H : Hp) (C : Addr) (cl : List (Str × Addr)) (fp : List Addr), PG (X.blk s H scope (compEnvC scope cl C X.env) fp) tg g)
    (ht : ∀ (s : Shared) (H : Hp) (C : Addr) (cl : List (Str × Addr)) (fp : List Addr), JTs (X.blk s H scope (compEnvC scope cl C X.env) fp) (fun _ _ _ _ => False) ifs mt)
    (he : ∀ (s : Shared) (H : Hp) (C : Addr) (cl : List (Str × Addr)) (fp : List Addr), JE (X.blk s H scope (compEnvC scope cl C X.env) fp) (fun _ _ _ _ => False) elt me)
    (hsw : swapsWith (.ListComp elt [⟨tg, iter, ifs, 0⟩] scope pos) (some (.Name y py)) spos.line X.env = pure true := by rfl)
    (hs : ∀ x, foldedSetIterable iter X.env x = pure x := by intro _; rfl) : JS X E (.Assign [.Name y py] (.ListComp elt [⟨tg, iter, ifs, 0⟩] scope pos) spos) (mSet i (mFrz (mComp mi b mt me (own.map (·.2))))) :=
  PS.weak (ps_setLc (tt := rdT X.K (fun _ _ _ _ => False) mt) (te := rdE X.K (fun _ _ _ _ => False) me) hc hN hy hyl hsw hi ok hg ht he hs) fun σv H D q => by
    obtain ⟨P, S, σ, Dw, W, r, m, d⟩ := q
    exact comp_weak hb (frz_weak (X := X) (E := E) ⟨P, S, σ, _, _, W, r, m, fun v H1 w S1 W1 r1 e1 m1 => d.nx _ _ _ _ W1 ((r.mono e1).set r1) e1 m1, d.ex.at r⟩)
theorem js_lcR {i : Nat} {y : Str} {py : Pos} {elt tg iter : Expr} {ifs : List Expr} {scope : Scope} {own : List (Str × Nat)} {pos spos : Pos} {mi : MI} {g : TG} {b : BW} {mt : MT} {me : ME} (hc : X.calm = true) (hN : X.N.Nodup) (hy : X.N[i]? = some y) (hyl : X.env.scope.names.lookup y = some .local) (hi : JI X E tg iter mi) (ok : BlkOk X.N X.env.scope scope own) (hb : Binds1 X.K g (own.map (·.2)) b)
    (hg : ∀ (s : Shared) (H : Hp) (C : Addr) (cl : List (Str × Addr)) (fp : List Addr), PG (X.blk s H scope (compEnvC scope cl C X.env) fp) tg g)
    (ht : ∀ (s : Shared) (H : Hp) (C : Addr) (cl : List (Str × Addr)) (fp : List Addr), JTs (X.blk s H scope (compEnvC scope cl C X.env) fp) (fun _ _ _ _ => False) ifs mt)
    (he : ∀ (s : Shared) (H : Hp) (C : Addr) (cl : List (Str × Addr)) (fp : List Addr), JE (X.blk s H scope (compEnvC scope cl C X.env) fp) (fun _ _ _ _ => False) elt me)
    (hsw : swapsWith (.ListComp elt [⟨tg, iter, ifs, 0⟩] scope pos) (some (.Name y py)) spos.line X.env = pure true := by rfl)
    (hs : ∀ x, foldedSetIterable iter X.env x = pure x := by intro _; rfl) : JS X E (.Assign [.Name y py] (.ListComp elt [⟨tg, iter, ifs, 0⟩] scope pos) spos) (mSet i (mRef (mComp mi b mt me (own.map (·.2))))) :=
  PS.weak (ps_setLc (tt := rdT X.K (fun _ _ _ _ => False) mt) (te := rdE X.K (fun _ _ _ _ => False) me) hc hN hy hyl hsw hi ok hg ht he hs) fun σv H D q => by
    obtain ⟨P, S, σ, Dw, W, r, m, d⟩ := q
    exact comp_weak hb (ref_weak (X := X) (E := E) ⟨P, S, σ, _, _, W, r, m, fun v H1 w S1 W1 r1 e1 m1 => d.nx _ _ _ _ W1 ((r.mono e1).set r1) e1 m1, d.ex.at r⟩)
end
section
variable {X : Cx} {E : WX}
def mMulL (ma mb : ME) : ML := fun σ S Q Ex => ma σ S (fun x S1 => mb σ S1 (fun y S2 => match plv S2 x, y with
  | some a, .int k => 0 ≤ k ∧ k < 2 ^ 63 ∧ a.length * k.toNat ≤ sizeLine ∧ Q (List.replicate k.toNat a).flatten S2
  | _, _ => False) Ex) Ex
theorem jl_mul {a b : Expr} {ma mb : ME} {pos : Pos} (ha : JE X E a ma) (hb : JE X E b mb) : JL X E (.BinOp a .Mult b pos) (mMulL ma mb) := PE.weak (pe_op op_rep ha hb) fun σv H Qv q => by
  obtain ⟨P, S, σ, Q, Ex, W, r, m, nl, nx⟩ := q
  refine ⟨P, S, σ, _, Ex, W, r, m, fun v H1 x S1 W1 r1 e1 m1 => ?_, nx⟩
  refine ⟨P, S1, σ, _, Ex, W1, r.mono e1, m1, fun u H2 y S2 W2 r2 e2 m2 => ?_, nx.after e1⟩
  dsimp only at m2
  split at m2
  · rename_i as k ea
    obtain ⟨p, xs, rfl, h1, rl1⟩ := plv_of W2 (r1.mono e2) ea
    rw [rp_int] at r2
    obtain ⟨g1, g2, g3, g4⟩ := m2
    exact ⟨p, _, xs, rfl, r2, h1, by omega, g2, by rw [← rl1.length]; exact g3, fun p hp => nl p H2 _ _ _ S2 W2 hp rfl (rl1.flat _) (e1.trans e2) g4⟩
  · exact m2.elim
end
/-! ### comprehensions by typed items -/
theorem comp_xs {α : Type} {b : BW} {mt : MT} {me : ME} {σ : Env} {vs : List Nat} {gd : Store → Prop} {Q : List Dt → Store → Prop} {S : Store} (F : α → Dt) (p : α → Bool) (f : α → Dt) (hg : gd S) : ∀ (xs : List α) (acc : List Dt),
    (∀ x ∈ xs, ∃ σ1, b (F x) (wipeW σ vs) = some σ1 ∧ (∀ k : Bool → Store → Prop, k (p x) S → mt σ1 S k (fun _ _ => False)) ∧ (p x = true → ∀ k : Dt → Store → Prop, k (f x) S → me σ1 S k (fun _ _ => False))) →
    acc.length + xs.length ≤ sizeLine → Q (acc ++ (xs.filter p).map f) S → compW b mt me σ vs gd Q (xs.map F) acc S
  | [], acc, _, _, q => by
    rw [List.map_nil]
    unfold compW
    rw [List.filter_nil, List.map_nil, List.append_nil] at q
    exact ⟨hg, q⟩
  | x :: xs, acc, h, hl, q => by
    rw [List.map_cons]
    unfold compW
    refine ⟨hg, ?_⟩
    obtain ⟨σ1, e, ht, hm⟩ := h x List.mem_cons_self
    rw [e]
    rw [List.length_cons] at hl
    refine ht _ ?_
    by_cases hp : p x = true
    · rw [hp]
      refine hm hp _ ⟨by omega, comp_xs F p f hg xs (acc ++ [f x]) (fun w' h' => h w' (List.mem_cons_of_mem _ h')) (by rw [List.length_append, List.length_singleton]; omega) ?_⟩
      rw [List.filter_cons_of_pos hp] at q
      rw [List.append_assoc]
      exact q
    · rw [Bool.not_eq_true] at hp
      rw [hp]
      refine comp_xs F p f hg xs acc (fun w' h' => h w' (List.mem_cons_of_mem _ h')) (by omega) ?_
      rw [List.filter_cons_of_neg (by rw [hp]; exact Bool.false_ne_true)] at q
      exact q
theorem comp_all {α : Type} {b : BW} {me : ME} {σ : Env} {vs : List Nat} {gd : Store → Prop} {Q : List Dt → Store → Prop} {S : Store} (F : α → Dt) (f : α → Dt) (xs : List α) (hg : gd S)
    (h : ∀ x ∈ xs, ∃ σ1, b (F x) (wipeW σ vs) = some σ1 ∧ ∀ k : Dt → Store → Prop, k (f x) S → me σ1 S k (fun _ _ => False)) (hl : xs.length ≤ sizeLine) (q : Q (xs.map f) S) : compW b mYes me σ vs gd Q (xs.map F) [] S :=
  comp_xs F (fun _ => true) f hg xs [] (fun x hx => by obtain ⟨σ1, e, k⟩ := h x hx; exact ⟨σ1, e, fun k q => q, fun _ => k⟩) (by rw [List.length_nil]; omega) (by rw [List.filter_eq_self.mpr (fun _ _ => rfl)]; exact q)
theorem memK_false {κ : Type} [DecidableEq κ] {ks : List κ} {k : κ} (h : k ∉ ks) : memK ks k = false := by
  unfold memK
  rw [List.any_eq_false]
  intro x hx
  simp only [decide_eq_true_eq]
  exact fun z => h (z ▸ hx)
theorem memK_true {κ : Type} [DecidableEq κ] {ks : List κ} {k : κ} (h : k ∈ ks) : memK ks k = true := by
  unfold memK
  rw [List.any_eq_true]
  exact ⟨k, h, decide_eq_true rfl⟩
theorem dcomp_xs {α : Type} {b : BW} {mk mv : ME} {σ : Env} {vs : List Nat} {gd : Store → Prop} {Q : List (List Key) → List Dt → Store → Prop} {S : Store} (F : α → Dt) (kf : α → Dt) (kk : α → List Key) (vf : α → Dt) (hg : gd S) (hk : ∀ x, tkeyW (kf x) = some (kk x)) : ∀ (xs : List α) (ks : List (List Key)) (us : List Dt),
    (∀ x ∈ xs, ∃ σ1, b (F x) (wipeW σ vs) = some σ1 ∧ (∀ k : Dt → Store → Prop, k (kf x) S → mk σ1 S k (fun _ _ => False)) ∧ (∀ k : Dt → Store → Prop, k (vf x) S → mv σ1 S k (fun _ _ => False))) →
    (ks ++ xs.map kk).Nodup → ks.length + xs.length ≤ sizeLine → Q (ks ++ xs.map kk) (us ++ xs.map vf) S → dcompWT b mYes mk mv σ vs gd Q (xs.map F) ks us S
  | [], ks, us, _, _, _, q => by
    rw [List.map_nil]
    unfold dcompWT
    rw [List.map_nil, List.map_nil, List.append_nil, List.append_nil] at q
    exact ⟨hg, q⟩
  | x :: xs, ks, us, h, nd, hl, q => by
    rw [List.map_cons]
    unfold dcompWT
    refine ⟨hg, ?_⟩
    obtain ⟨σ1, e, h1, h2⟩ := h x List.mem_cons_self
    rw [e]
    show mYes σ1 S _ _
    unfold mYes
    refine h1 _ (h2 _ ?_)
    rw [hk x]
    rw [List.length_cons] at hl
    refine ⟨by omega, ?_⟩
    have nk : kk x ∉ ks := fun z => by
      rw [List.map_cons, List.nodup_append] at nd
      exact nd.2.2 _ z _ List.mem_cons_self rfl
    have e1 : putKs ks (kk x) = ks ++ [kk x] := by unfold putKs; rw [memK_false nk]; rfl
    have e2 : putWs ks us (kk x) (vf x) = us ++ [vf x] := by unfold putWs; rw [memK_false nk]; rfl
    rw [e1, e2]
    refine dcomp_xs F kf kk vf hg hk xs _ _ (fun w' h' => h w' (List.mem_cons_of_mem _ h')) (by rw [List.append_assoc]; exact nd) (by rw [List.length_append, List.length_singleton]; omega) ?_
    rw [List.append_assoc, List.append_assoc]
    exact q
theorem enumW_map {α : Type} (F : α → Dt) : ∀ (n : Nat) (xs : List α), enumW n (xs.map F) = (xs.zipIdx n).map fun p => .tup [.int (p.2 : Nat), F p.1]
  | _, [] => rfl
  | n, x :: xs => by
    rw [List.map_cons, enumW, enumW_map F (n + 1) xs, List.zipIdx_cons, List.map_cons]
theorem rangeW_map : ∀ (n a : Nat), rangeW (a : Int) n = (List.range' a n).map fun i => .int (i : Nat)
  | 0, a => rfl
  | n + 1, a => by
    rw [rangeW, List.range'_succ, List.map_cons]
    have := rangeW_map n (a + 1)
    rw [← this]
    rfl
theorem rangeW_0 (n : Nat) : rangeW 0 n = (List.range n).map fun i => .int (i : Nat) := by
  rw [List.range_eq_range']
  exact rangeW_map n 0
/-! ### texts of signs -/
def rowS (r : List Nat) : Dt := .str ⟨r.toArray⟩
theorem rowS_app (r : List Nat) (c : Nat) : ((⟨r.toArray⟩ : Str) ++ (⟨#[c]⟩ : Str)) = ⟨(r ++ [c]).toArray⟩ := by
  show Str.append _ _ = _
  unfold Str.append
  congr 1
  simp
theorem rowS_cons (c : Nat) (r : List Nat) : ((⟨#[c]⟩ : Str) ++ (⟨r.toArray⟩ : Str)) = ⟨(c :: r).toArray⟩ := by
  show Str.append _ _ = _
  unfold Str.append
  congr 1
  simp
theorem ixN_zero {n : Nat} (h : 0 < n) : ixN n 0 = some 0 := by
  unfold ixN
  rw [if_pos (by omega), if_pos (by omega)]
  rfl
theorem rowS_len (r : List Nat) : (⟨r.toArray⟩ : Str).length = r.length := by
  show r.toArray.size = _
  exact List.size_toArray
theorem str_of (z : Str) : z = ⟨z.cps.toList.toArray⟩ := by
  cases z
  simp
theorem str_one {c d : Nat} : ((⟨#[c]⟩ : Str) = ⟨#[d]⟩) ↔ c = d := by
  constructor
  · intro h
    have := congrArg (fun z : Str => z.cps.toList) h
    simpa using this
  · intro h
    rw [h]
theorem strH : ("H" : Str) = ⟨#[72]⟩ := by decide +kernel
theorem strS : ("S" : Str) = ⟨#[83]⟩ := by decide +kernel
theorem strDot : ("." : Str) = ⟨#[46]⟩ := by decide +kernel
theorem strWall : ("#" : Str) = ⟨#[35]⟩ := by decide +kernel
theorem cutS_row (r : List Nat) (lo hi : Option Int) : cutS ⟨r.toArray⟩ lo hi = ⟨(cutW r lo hi).toArray⟩ := by
  unfold cutS cutW
  rw [rowS_len]
theorem getD_get {α : Type} {xs : List α} {i : Nat} {d : α} (h : i < xs.length) : xs.getD i d = xs[i] := by
  rw [List.getD_eq_getElem?_getD, List.getElem?_eq_getElem h]
  rfl
theorem getD_mem {α : Type} {xs : List α} {i : Nat} {d : α} (h : i < xs.length) : xs.getD i d ∈ xs := by
  rw [getD_get h]
  exact List.getElem_mem _
theorem atI_map {α β : Type} {f : α → β} {xs : List α} {c : Nat} (d : α) (h : c < xs.length) : atI (xs.map f) (c : Int) = some (f (xs.getD c d)) := by
  unfold atI ixN
  rw [if_pos (by omega), if_pos (by rw [List.length_map]; omega), Int.toNat_natCast]
  show (xs.map f)[c]? = _
  rw [List.getElem?_map, List.getElem?_eq_getElem h, getD_get h]
  rfl
/-! ### floors -/
abbrev Rws := List (List Nat)
def wideF (R : Rws) : Nat := (R.headD []).length
def isSg (c : Nat) : Bool := c == 46 || c == 35 || c == 72 || c == 83
def homesF (R : Rws) : Nat := (R.map (List.count 72)).sum
structure GoodF (R : Rws) : Prop where
  h1 : 1 ≤ R.length
  h2 : R.length ≤ 12
  wl : ∀ r ∈ R, r.length = wideF R
  w1 : 1 ≤ wideF R
  w2 : wideF R ≤ 12
  sg : ∀ r ∈ R, ∀ c ∈ r, isSg c = true
  o1 : 1 ≤ homesF R
  o2 : homesF R ≤ 6
theorem wide_hd {R : Rws} {n : Nat} (h : 0 < R.length) (hw : ∀ r ∈ R, r.length = n) : wideF R = n := by
  cases R with
  | nil => exact absurd h (by decide)
  | cons r R => exact hw r List.mem_cons_self
theorem zipIdx_eq {α : Type} (d : α) (xs : List α) : xs.zipIdx = (List.range xs.length).map fun i => (xs.getD i d, i) := by
  apply List.ext_getElem
  · rw [List.length_zipIdx, List.length_map, List.length_range]
  · intro i h1 h2
    rw [List.length_zipIdx] at h1
    rw [List.getElem_zipIdx, List.getElem_map, List.getElem_range, getD_get h1, Nat.zero_add]
theorem range_map {α β : Type} (d : α) (xs : List α) (f : α → β) : (List.range xs.length).map (fun i => f (xs.getD i d)) = xs.map f := by
  apply List.ext_getElem
  · rw [List.length_map, List.length_range, List.length_map]
  · intro i h1 h2
    rw [List.length_map] at h2
    rw [List.getElem_map, List.getElem_map, List.getElem_range, getD_get h2]
theorem range_filter {α : Type} (d : α) (xs : List α) (p : α → Bool) : (xs.zipIdx.filter fun q => p q.1).map (·.2) = (List.range xs.length).filter fun i => p (xs.getD i d) := by
  rw [zipIdx_eq d, List.filter_map, List.map_map]
  show List.map id _ = _
  rw [List.map_id]
  rfl
def rowSp (i : Nat) (r : List Nat) : List (Nat × Nat) := (r.zipIdx.filter fun p => !decide (p.1 = 35)).map fun p => (i, p.2)
def spotsF (R : Rws) : List (Nat × Nat) := R.zipIdx.flatMap fun p => rowSp p.2 p.1
def spD (p : Nat × Nat) : Dt := .tup [.int p.1, .int p.2]
def lotW (l : List Nat) : List Dt := l.map fun c => .int (c : Nat)
def signF (R : Rws) (p : Nat × Nat) : Nat := (R.getD p.1 []).getD p.2 0
def ofF (R : Rws) (s : Nat) : List Nat := ((spotsF R).zipIdx.filter fun p => decide (signF R p.1 = s)).map (·.2)
theorem rowSp_eq (i : Nat) (r : List Nat) : rowSp i r = ((List.range r.length).filter fun j => !decide (r.getD j 0 = 35)).map fun j => (i, j) := by
  unfold rowSp
  rw [← range_filter 0 r (fun c => !decide (c = 35)), List.map_map]
  rfl
theorem spotsF_eq (R : Rws) : spotsF R = (List.range R.length).flatMap fun i => rowSp i (R.getD i []) := by
  unfold spotsF
  rw [zipIdx_eq [], List.flatMap_map]
theorem mem_rowSp {i : Nat} {r : List Nat} {p : Nat × Nat} : p ∈ rowSp i r ↔ p.1 = i ∧ p.2 < r.length ∧ r.getD p.2 0 ≠ 35 := by
  rw [rowSp_eq, List.mem_map]
  constructor
  · rintro ⟨j, hj, rfl⟩
    rw [List.mem_filter, List.mem_range] at hj
    exact ⟨rfl, hj.1, by simpa using hj.2⟩
  · rintro ⟨rfl, h1, h2⟩
    exact ⟨p.2, by rw [List.mem_filter, List.mem_range]; exact ⟨h1, by simpa using h2⟩, rfl⟩
theorem mem_spots {R : Rws} {p : Nat × Nat} : p ∈ spotsF R ↔ p.1 < R.length ∧ p.2 < (R.getD p.1 []).length ∧ signF R p ≠ 35 := by
  rw [spotsF_eq, List.mem_flatMap]
  constructor
  · rintro ⟨i, hi, h⟩
    rw [mem_rowSp] at h
    obtain ⟨rfl, h1, h2⟩ := h
    exact ⟨List.mem_range.mp hi, h1, h2⟩
  · rintro ⟨h1, h2, h3⟩
    exact ⟨p.1, List.mem_range.mpr h1, mem_rowSp.mpr ⟨rfl, h2, h3⟩⟩
theorem spots_nodup (R : Rws) : (spotsF R).Nodup := by
  rw [spotsF_eq]
  unfold List.Nodup
  rw [List.pairwise_flatMap]
  refine ⟨fun i _ => ?_, ?_⟩
  · rw [rowSp_eq, List.pairwise_map]
    exact (List.nodup_range.filter _).imp fun h z => h (Prod.mk.inj z).2
  · exact List.nodup_range.imp fun h x hx y hy z => by
      rw [mem_rowSp] at hx hy
      exact h (by rw [← hx.1, ← hy.1, z])
theorem spots_len {R : Rws} (h : GoodF R) : (spotsF R).length ≤ 144 := by
  rw [spotsF_eq, List.length_flatMap]
  have : ∀ (l : List Nat), (∀ i ∈ l, i < R.length) → (l.map fun i => (rowSp i (R.getD i [])).length).sum ≤ l.length * 12 := by
    intro l
    induction l with
    | nil => intro _; exact Nat.le_refl _
    | cons a l ih =>
      intro hl
      rw [List.map_cons, List.sum_cons, List.length_cons]
      have h1 := ih fun i hi => hl i (List.mem_cons_of_mem _ hi)
      have h2 : (rowSp a (R.getD a [])).length ≤ 12 := by
        rw [rowSp_eq, List.length_map]
        refine Nat.le_trans (List.length_filter_le _ _) ?_
        rw [List.length_range, h.wl _ (getD_mem (hl a List.mem_cons_self))]
        exact h.w2
      omega
  have := this (List.range R.length) fun i hi => List.mem_range.mp hi
  rw [List.length_range] at this
  have := h.h2
  omega
/-! neighbours -/
def adjP (p q : Nat × Nat) : Bool := decide ((((q.1 : Int) - p.1).natAbs : Int) + (((q.2 : Int) - p.2).natAbs : Int) = 1)
def tieF (sp : List (Nat × Nat)) (p : Nat × Nat) : List Nat := (List.range sp.length).filter fun o => adjP p (sp.getD o (0, 0))
def tiesF (sp : List (Nat × Nat)) : List (List Nat) := sp.map (tieF sp)
def kyP (p : Nat × Nat) : List Key := [.inl (p.1 : Nat), .inl (p.2 : Nat)]
def kyI (q : Int × Int) : List Key := [.inl q.1, .inl q.2]
def lookP : List (Nat × Nat) → Nat → Int × Int → Option Nat
  | [], _, _ => none
  | p :: sp, n, q => if (p.1 : Int) = q.1 ∧ (p.2 : Int) = q.2 then some n else lookP sp (n + 1) q
theorem kyP_inj {p q : Nat × Nat} (h : kyP p = kyP q) : p = q := by
  unfold kyP at h
  have h1 := List.cons.inj h
  have h2 := List.cons.inj h1.2
  have a := Sum.inl.inj h1.1
  have b := Sum.inl.inj h2.1
  exact Prod.ext (by omega) (by omega)
theorem lkW_look : ∀ (sp : List (Nat × Nat)) (n : Nat) (q : Int × Int), lkW (sp.map kyP) ((sp.zipIdx n).map fun p => .int (p.2 : Nat)) (kyI q) = (lookP sp n q).map fun i => .int (i : Nat)
  | [], n, q => rfl
  | p :: sp, n, q => by
    rw [List.map_cons, List.zipIdx_cons, List.map_cons]
    unfold lkW lookP
    by_cases h : (p.1 : Int) = q.1 ∧ (p.2 : Int) = q.2
    · rw [if_pos h, if_pos (by unfold kyP kyI; rw [h.1, h.2])]
      rfl
    · rw [if_neg h, if_neg (fun z => h (by unfold kyP kyI at z; simp at z; exact z)), lkW_look sp (n + 1) q]
theorem lookP_some : ∀ {sp : List (Nat × Nat)} {n i : Nat} {q : Int × Int}, lookP sp n q = some i → n ≤ i ∧ i < n + sp.length ∧ ((sp.getD (i - n) (0, 0)).1 : Int) = q.1 ∧ ((sp.getD (i - n) (0, 0)).2 : Int) = q.2
  | [], n, i, q, h => by cases h
  | p :: sp, n, i, q, h => by
    unfold lookP at h
    by_cases hc : (p.1 : Int) = q.1 ∧ (p.2 : Int) = q.2
    · rw [if_pos hc] at h
      cases h
      rw [List.length_cons, Nat.sub_self]
      exact ⟨Nat.le_refl _, by omega, hc.1, hc.2⟩
    · rw [if_neg hc] at h
      have ih := lookP_some h
      have e : i - n = (i - (n + 1)) + 1 := by omega
      rw [List.length_cons, e, List.getD_cons_succ]
      exact ⟨by omega, by omega, ih.2.2⟩
theorem lookP_of : ∀ {sp : List (Nat × Nat)} {n k : Nat}, sp.Nodup → k < sp.length → lookP sp n (((sp.getD k (0, 0)).1 : Nat), ((sp.getD k (0, 0)).2 : Nat)) = some (n + k)
  | p :: sp, n, 0, _, _ => by
    unfold lookP
    rw [List.getD_cons_zero, if_pos ⟨rfl, rfl⟩]
    rfl
  | p :: sp, n, k + 1, nd, h => by
    rw [List.nodup_cons] at nd
    rw [List.length_cons] at h
    unfold lookP
    rw [List.getD_cons_succ, if_neg, lookP_of nd.2 (by omega)]
    · congr 1
      omega
    · intro z
      apply nd.1
      have e : sp.getD k (0, 0) = p := Prod.ext (by have := z.1; dsimp only at this; omega) (by have := z.2; dsimp only at this; omega)
      rw [← e]
      exact getD_mem (by omega)
def aroundP (p : Nat × Nat) : List (Int × Int) := [((p.1 : Int) - 1, (p.2 : Int)), ((p.1 : Int) + 1, (p.2 : Int)), ((p.1 : Int), (p.2 : Int) - 1), ((p.1 : Int), (p.2 : Int) + 1)]
theorem tie_sorted {sp : List (Nat × Nat)} (nd : sp.Nodup) (p : Nat × Nat) : sortZ (((aroundP p).filter fun q => (lookP sp 0 q).isSome).map fun q => (((lookP sp 0 q).getD 0 : Nat) : Int)) = (tieF sp p).map fun c => ((c : Nat) : Int) := by
  refine (sortZ_of ?_ ?_).symm
  · refine (List.perm_ext_iff_of_nodup ?_ ?_).mpr fun a => ?_
    · unfold List.Nodup
      rw [List.pairwise_map]
      exact (List.nodup_range.filter _).imp fun h z => h (by omega)
    · unfold List.Nodup
      rw [List.pairwise_map, List.pairwise_filter]
      have key : ∀ q q' : Int × Int, q ≠ q' → (lookP sp 0 q).isSome = true → (lookP sp 0 q').isSome = true → (((lookP sp 0 q).getD 0 : Nat) : Int) ≠ (((lookP sp 0 q').getD 0 : Nat) : Int) := by
        intro q q' hne h1 h2
        obtain ⟨i, ei⟩ := Option.isSome_iff_exists.mp h1
        obtain ⟨j, ej⟩ := Option.isSome_iff_exists.mp h2
        rw [ei, ej]
        intro z
        have z : (i : Int) = (j : Int) := z
        have z : i = j := by omega
        subst z
        have a := lookP_some ei
        have b := lookP_some ej
        exact hne (Prod.ext (a.2.2.1.symm.trans b.2.2.1) (a.2.2.2.symm.trans b.2.2.2))
      unfold aroundP
      have d1 : ∀ (a b c d : Int), (a ≠ c ∨ b ≠ d) → (a, b) ≠ (c, d) := fun a b c d h z => by
        have := Prod.mk.inj z
        rcases h with h | h
        · exact h this.1
        · exact h this.2
      refine .cons ?_ (.cons ?_ (.cons ?_ (.cons ?_ .nil)))
      · intro q hq
        simp only [List.mem_cons, List.not_mem_nil, or_false] at hq
        rcases hq with rfl | rfl | rfl <;> exact key _ _ (d1 _ _ _ _ (by omega))
      · intro q hq
        simp only [List.mem_cons, List.not_mem_nil, or_false] at hq
        rcases hq with rfl | rfl <;> exact key _ _ (d1 _ _ _ _ (by omega))
      · intro q hq
        simp only [List.mem_cons, List.not_mem_nil, or_false] at hq
        subst hq
        exact key _ _ (d1 _ _ _ _ (by omega))
      · intro q hq
        cases hq
    · rw [List.mem_map, List.mem_map]
      constructor
      · rintro ⟨o, ho, rfl⟩
        unfold tieF at ho
        rw [List.mem_filter, List.mem_range] at ho
        obtain ⟨h1, h2⟩ := ho
        have hl := lookP_of (n := 0) nd h1
        rw [Nat.zero_add] at hl
        refine ⟨(((sp.getD o (0, 0)).1 : Nat), ((sp.getD o (0, 0)).2 : Nat)), ?_, by rw [hl]; rfl⟩
        rw [List.mem_filter]
        refine ⟨?_, by rw [hl]; rfl⟩
        unfold adjP at h2
        rw [decide_eq_true_eq] at h2
        generalize (sp.getD o (0, 0)).1 = x at h2 ⊢
        generalize (sp.getD o (0, 0)).2 = y at h2 ⊢
        unfold aroundP
        simp only [List.mem_cons, List.not_mem_nil, or_false, Prod.mk.injEq]
        omega
      · rintro ⟨q, hq, rfl⟩
        rw [List.mem_filter] at hq
        obtain ⟨h1, h2⟩ := hq
        obtain ⟨i, ei⟩ := Option.isSome_iff_exists.mp h2
        have a := lookP_some ei
        rw [Nat.sub_zero, Nat.zero_add] at a
        refine ⟨i, ?_, by rw [ei]; rfl⟩
        unfold tieF
        rw [List.mem_filter, List.mem_range]
        refine ⟨a.2.1, ?_⟩
        unfold adjP
        rw [decide_eq_true_eq, a.2.2.1, a.2.2.2]
        unfold aroundP at h1
        simp only [List.mem_cons, List.not_mem_nil, or_false] at h1
        rcases h1 with rfl | rfl | rfl | rfl <;> (dsimp only; omega)
  · rw [List.pairwise_map]
    exact (List.pairwise_lt_range.filter _).imp fun h => by omega
theorem adj_abs (p q : Nat × Nat) : adjP p q = decide ((if (q.1 : Int) - p.1 < 0 then -((q.1 : Int) - p.1) else (q.1 : Int) - p.1) + (if (q.2 : Int) - p.2 < 0 then -((q.2 : Int) - p.2) else (q.2 : Int) - p.2) = 1) := by
  unfold adjP
  rw [Bool.eq_iff_iff, decide_eq_true_iff, decide_eq_true_iff]
  omega
theorem tie_at {sp : List (Nat × Nat)} {c : Nat} (h : c < sp.length) : (tiesF sp).getD c [] = tieF sp (sp.getD c (0, 0)) := by
  unfold tiesF
  rw [getD_get (by rw [List.length_map]; exact h), List.getElem_map, getD_get h]
theorem ties_len (sp : List (Nat × Nat)) : (tiesF sp).length = sp.length := List.length_map ..
theorem signs_eq : ((("." : Str) ++ ("#" : Str)) ++ ("H" : Str) ++ ("S" : Str)).cps.toList = [46, 35, 72, 83] := by decide +kernel
theorem isSg_mem (c : Nat) : decide (c ∈ ((("." : Str) ++ ("#" : Str)) ++ ("H" : Str) ++ ("S" : Str)).cps.toList) = isSg c := by
  rw [signs_eq]
  unfold isSg
  rw [Bool.eq_iff_iff]
  simp [or_assoc]
theorem tieF_lt {sp : List (Nat × Nat)} {p : Nat × Nat} {o : Nat} (h : o ∈ tieF sp p) : o < sp.length := by
  unfold tieF at h
  rw [List.mem_filter, List.mem_range] at h
  exact h.1
/-! ### spreading -/
abbrev Ahd := List (Nat × Option Nat)
def optI : Option Nat → Dt
  | none => .non
  | some p => .int (p : Nat)
def ahdK (A : Ahd) : List Key := A.map fun p => .inl ((p.1 : Nat) : Int)
def ahdW (A : Ahd) : List Dt := A.map fun p => optI p.2
def lookA : Ahd → Nat → Option (Option Nat)
  | [], _ => none
  | p :: A, c => if p.1 = c then some p.2 else lookA A c
theorem lkW_ahd : ∀ (A : Ahd) (c : Nat), lkW (ahdK A) (ahdW A) (.inl (c : Int)) = (lookA A c).map optI
  | [], c => rfl
  | p :: A, c => by
    show (if (Sum.inl (p.1 : Int) : Key) = .inl (c : Int) then some (optI p.2) else lkW (ahdK A) (ahdW A) (.inl (c : Int))) = _
    unfold lookA
    by_cases h : p.1 = c
    · rw [if_pos h, if_pos (by rw [h])]
      rfl
    · rw [if_neg h, if_neg (fun z => h (by have := Sum.inl.inj z; omega)), lkW_ahd A c]
theorem dlook_ahd {S : Store} {a : Addr} {A : Ahd} (h : S a = some (.dK (ahdK A) (ahdW A))) (o : Nat) : dlook S (.ref a) (.int (o : Nat)) = some ((lookA A o).map optI) := by
  rw [dlook_at h]
  exact congrArg some (lkW_ahd A o)
theorem dlook_frz {S : Store} {A : Ahd} (o : Nat) : dlook S (.dK (ahdK A) (ahdW A)) (.int (o : Nat)) = some ((lookA A o).map optI) := congrArg some (lkW_ahd A o)
theorem atI_lot {l : List Nat} {c : Nat} (h : c < l.length) : atI (lotW l) (c : Int) = some (.int ((l.getD c 0 : Nat) : Int)) := atI_map 0 h
def hasA (A : Ahd) (c : Nat) : Bool := (lookA A c).isSome
def visit1 (sh : Nat → Bool) (c : Nat) (s : Ahd × List Nat) (o : Nat) : Ahd × List Nat := if hasA s.1 o = false ∧ sh o = false then (s.1 ++ [(o, some c)], s.2 ++ [o]) else s
def visitC (ties : List (List Nat)) (sh : Nat → Bool) (s : Ahd × List Nat) (c : Nat) : Ahd × List Nat := (ties.getD c []).foldl (visit1 sh c) s
def waveF (ties : List (List Nat)) (sh : Nat → Bool) (A : Ahd) (wt : List Nat) : Ahd × List Nat := wt.foldl (visitC ties sh) (A, [])
def spreadG (ties : List (List Nat)) (sh : Nat → Bool) : Nat → Ahd → List Nat → Ahd
  | 0, A, _ => A
  | f + 1, A, wt => if wt = [] then A else spreadG ties sh f (waveF ties sh A wt).1 (waveF ties sh A wt).2
def spreadF (ties : List (List Nat)) (sh : Nat → Bool) (b : Nat) : Ahd := spreadG ties sh (ties.length + 1) [(b, none)] [b]
theorem lookA_app : ∀ (A B : Ahd) (c : Nat), lookA (A ++ B) c = (lookA A c).or (lookA B c)
  | [], B, c => rfl
  | p :: A, B, c => by
    rw [List.cons_append]
    show (if p.1 = c then some p.2 else lookA (A ++ B) c) = (if p.1 = c then some p.2 else lookA A c).or _
    by_cases h : p.1 = c
    · rw [if_pos h, if_pos h]
      rfl
    · rw [if_neg h, if_neg h]
      exact lookA_app A B c
theorem hasA_iff : ∀ {A : Ahd} {c : Nat}, hasA A c = true ↔ c ∈ A.map (·.1)
  | [], c => by simp [hasA, lookA]
  | p :: A, c => by
    have ih := hasA_iff (A := A) (c := c)
    unfold hasA lookA
    by_cases h : p.1 = c
    · rw [if_pos h]
      simp [h]
    · rw [if_neg h, List.map_cons, List.mem_cons]
      exact ih.trans ⟨.inr, fun z => z.resolve_left fun q => h q.symm⟩
theorem nodup_len : ∀ {n : Nat} {l : List Nat}, l.Nodup → (∀ x ∈ l, x < n) → l.length ≤ n
  | 0, [], _, _ => Nat.le_refl _
  | 0, x :: l, _, h => absurd (h x List.mem_cons_self) (Nat.not_lt_zero _)
  | n + 1, l, nd, h => by
    by_cases hm : n ∈ l
    · have h1 : (l.erase n).length = l.length - 1 := List.length_erase_of_mem hm
      have h2 := nodup_len (n := n) (l := l.erase n) (nd.erase n) fun x hx => by
        have := h x (List.mem_of_mem_erase hx)
        have ne : x ≠ n := fun z => by
          subst z
          exact (List.Nodup.not_mem_erase nd) hx
        omega
      omega
    · have := nodup_len (n := n) nd fun x hx => by
        have := h x hx
        have ne : x ≠ n := fun z => hm (z ▸ hx)
        omega
      omega
/-- what is right of a spread at all times: keys unlike, below n; each but the first is led to by an earlier one -/
structure WfA (n : Nat) (A : Ahd) : Prop where
  nd : (A.map (·.1)).Nodup
  lt : ∀ p ∈ A, p.1 < n
  up : ∀ (i c p : Nat), A[i]? = some (c, some p) → ∃ (j : Nat) (q : Option Nat), j < i ∧ A[j]? = some (p, q)
theorem WfA.len {n : Nat} {A : Ahd} (h : WfA n A) : A.length ≤ n := by
  have h2 := nodup_len (n := n) h.nd fun x hx => by
    rw [List.mem_map] at hx
    obtain ⟨p, hp, rfl⟩ := hx
    exact h.lt p hp
  rwa [List.length_map] at h2
theorem WfA.one {n b : Nat} (h : b < n) : WfA n [(b, none)] := ⟨by simp, by simpa using h, fun i c p e => by
  cases i with
  | zero => simp at e
  | succ i => simp at e⟩
theorem WfA.put {n : Nat} {A : Ahd} {c o : Nat} (h : WfA n A) (hc : hasA A c = true) (ho : hasA A o = false) (hl : o < n) : WfA n (A ++ [(o, some c)]) := by
  refine ⟨?_, ?_, ?_⟩
  · rw [List.map_append, List.nodup_append]
    refine ⟨h.nd, by simp, fun a ha b hb z => ?_⟩
    simp at hb
    subst z hb
    rw [hasA_iff.mpr ha] at ho
    cases ho
  · intro p hp
    rw [List.mem_append] at hp
    rcases hp with hp | hp
    · exact h.lt p hp
    · simp at hp
      subst hp
      exact hl
  · intro i x p e
    by_cases hi : i < A.length
    · rw [List.getElem?_append_left hi] at e
      obtain ⟨j, q, hj, ej⟩ := h.up i x p e
      exact ⟨j, q, hj, by rw [List.getElem?_append_left (by omega)]; exact ej⟩
    · rw [List.getElem?_append_right (by omega)] at e
      cases hk : i - A.length with
      | zero =>
        rw [hk] at e
        simp at e
        obtain ⟨rfl, rfl⟩ := e
        rw [hasA_iff, List.mem_map] at hc
        obtain ⟨q, hq, rfl⟩ := hc
        obtain ⟨j, hj, ej⟩ := List.mem_iff_getElem.mp hq
        exact ⟨j, q.2, by omega, by rw [List.getElem?_append_left hj, List.getElem?_eq_getElem hj, ej]⟩
      | succ k =>
        rw [hk] at e
        simp at e
theorem foldl_take {α β : Type} {f : β → α → β} {xs : List α} {i : Nat} {x : α} {s : β} (h : xs[i]? = some x) : (xs.take (i + 1)).foldl f s = f ((xs.take i).foldl f s) x := by
  rw [List.take_add_one, h, List.foldl_append]
  rfl
theorem memW_lot (o : Nat) (l : List Nat) : memW (.int (o : Nat)) (lotW l) = decide (o ∈ l) := by
  unfold memW lotW
  rw [List.any_map, Bool.eq_iff_iff, List.any_eq_true, decide_eq_true_iff]
  constructor
  · rintro ⟨x, hx, h⟩
    have h : decide ((x : Int) = (o : Int)) = true := h
    rw [decide_eq_true_iff] at h
    have : x = o := by omega
    exact this ▸ hx
  · intro h
    exact ⟨o, h, decide_eq_true (show (o : Int) = (o : Int) from rfl)⟩
theorem memW_int (z : Int) (l : List Nat) : memW (.int z) (lotW l) = l.any fun c => decide ((c : Int) = z) := by
  unfold memW lotW
  rw [List.any_map]
  rfl
theorem flat_lot (l : List Nat) : (lotW l).all flatD = true := by
  unfold lotW
  rw [List.all_map, List.all_eq_true]
  intro x _
  rfl
theorem look_put (A : Ahd) (o : Nat) (c : Option Nat) (h : hasA A o = false) : putKs (ahdK A) (.inl (o : Int)) = ahdK (A ++ [(o, c)]) ∧ putWs (ahdK A) (ahdW A) (.inl (o : Int)) (optI c) = ahdW (A ++ [(o, c)]) := by
  have hm : memK (ahdK A) (.inl (o : Int)) = false := by
    refine memK_false fun z => ?_
    unfold ahdK at z
    rw [List.mem_map] at z
    obtain ⟨p, hp, e⟩ := z
    have e : p.1 = o := by have := Sum.inl.inj e; omega
    have : hasA A o = true := hasA_iff.mpr (List.mem_map.mpr ⟨p, hp, e⟩)
    rw [h] at this
    cases this
  unfold putKs putWs
  rw [hm]
  unfold ahdK ahdW
  rw [List.map_append, List.map_append]
  exact ⟨rfl, rfl⟩
structure WfS (n k : Nat) (s : Ahd × List Nat) : Prop where
  wa : WfA n s.1
  ln : s.1.length = k + s.2.length
  ky : ∀ c ∈ s.2, hasA s.1 c = true
theorem hasA_app {A : Ahd} {p : Nat × Option Nat} {x : Nat} (h : hasA A x = true) : hasA (A ++ [p]) x = true := by
  rw [hasA_iff] at h ⊢
  rw [List.map_append]
  exact List.mem_append_left _ h
theorem visit1_wf {n k : Nat} {sh : Nat → Bool} {c o : Nat} {s : Ahd × List Nat} (h : WfS n k s) (hc : hasA s.1 c = true) (ho : o < n) : WfS n k (visit1 sh c s o) := by
  unfold visit1
  by_cases hv : hasA s.1 o = false ∧ sh o = false
  · rw [if_pos hv]
    refine ⟨h.wa.put hc hv.1 ho, ?_, fun x hx => ?_⟩
    · have := h.ln
      rw [List.length_append, List.length_append]
      show s.1.length + 1 = k + (s.2.length + 1)
      omega
    · rw [List.mem_append] at hx
      rcases hx with hx | hx
      · exact hasA_app (h.ky x hx)
      · simp at hx
        subst hx
        rw [hasA_iff, List.map_append]
        exact List.mem_append_right _ (List.mem_singleton.mpr rfl)
  · rw [if_neg hv]
    exact h
theorem visit1_has {sh : Nat → Bool} {c o x : Nat} {s : Ahd × List Nat} (h : hasA s.1 x = true) : hasA (visit1 sh c s o).1 x = true := by
  unfold visit1
  split
  · exact hasA_app h
  · exact h
theorem visits_has {sh : Nat → Bool} {c x : Nat} : ∀ {os : List Nat} {s : Ahd × List Nat}, hasA s.1 x = true → hasA (os.foldl (visit1 sh c) s).1 x = true
  | [], s, h => h
  | o :: os, s, h => visits_has (os := os) (visit1_has h)
theorem visits_wf {n k : Nat} {sh : Nat → Bool} {c : Nat} : ∀ {os : List Nat} {s : Ahd × List Nat}, WfS n k s → hasA s.1 c = true → (∀ o ∈ os, o < n) → WfS n k (os.foldl (visit1 sh c) s)
  | [], s, h, _, _ => h
  | o :: os, s, h, hc, ho => visits_wf (os := os) (visit1_wf h hc (ho o List.mem_cons_self)) (visit1_has hc) fun x hx => ho x (List.mem_cons_of_mem _ hx)
theorem waves_has {ties : List (List Nat)} {sh : Nat → Bool} {x : Nat} : ∀ {cs : List Nat} {s : Ahd × List Nat}, hasA s.1 x = true → hasA (cs.foldl (visitC ties sh) s).1 x = true
  | [], s, h => h
  | c :: cs, s, h => waves_has (cs := cs) (visits_has h)
theorem waves_wf {n k : Nat} {ties : List (List Nat)} {sh : Nat → Bool} (ht : ∀ c o, o ∈ ties.getD c [] → o < n) : ∀ {cs : List Nat} {s : Ahd × List Nat}, WfS n k s → (∀ c ∈ cs, hasA s.1 c = true) → WfS n k (cs.foldl (visitC ties sh) s)
  | [], s, h, _ => h
  | c :: cs, s, h, hc => waves_wf ht (cs := cs) (visits_wf h (hc c List.mem_cons_self) (ht c)) fun x hx => visits_has (hc x (List.mem_cons_of_mem _ hx))
theorem spreadG_nil {ties : List (List Nat)} {sh : Nat → Bool} {f : Nat} {A : Ahd} : spreadG ties sh f A [] = A := by
  cases f with
  | zero => rfl
  | succ f => unfold spreadG; rw [if_pos rfl]
theorem spreadG_step {ties : List (List Nat)} {sh : Nat → Bool} {f : Nat} {A : Ahd} {wt : List Nat} (h : wt ≠ []) : spreadG ties sh (f + 1) A wt = spreadG ties sh f (waveF ties sh A wt).1 (waveF ties sh A wt).2 := by
  rw [spreadG, if_neg h]
theorem spreadG_wf {n : Nat} {ties : List (List Nat)} {sh : Nat → Bool} (ht : ∀ c o, o ∈ ties.getD c [] → o < n) : ∀ {f : Nat} {A : Ahd} {wt : List Nat}, WfA n A → (∀ c ∈ wt, hasA A c = true) → WfA n (spreadG ties sh f A wt)
  | 0, A, wt, h, _ => h
  | f + 1, A, wt, h, hw => by
    by_cases e : wt = []
    · rw [e, spreadG_nil]
      exact h
    · rw [spreadG_step e]
      have w := waves_wf (sh := sh) (k := A.length) ht (s := (A, [])) (cs := wt) ⟨h, rfl, fun c hc => by cases hc⟩ hw
      exact spreadG_wf ht w.wa w.ky
theorem ties_lt {sp : List (Nat × Nat)} {c o : Nat} (h : o ∈ (tiesF sp).getD c []) : o < sp.length := by
  by_cases hc : c < sp.length
  · rw [tie_at hc] at h
    exact tieF_lt h
  · have : (tiesF sp).getD c [] = [] := by
      rw [List.getD_eq_getElem?_getD, List.getElem?_eq_none (by rw [ties_len]; omega)]
      rfl
    rw [this] at h
    cases h
theorem spreadF_wf {sp : List (Nat × Nat)} {sh : Nat → Bool} {b : Nat} (h : b < sp.length) : WfA sp.length (spreadF (tiesF sp) sh b) :=
  spreadG_wf (fun c o => ties_lt) (.one h) fun c hc => by
    rw [List.mem_singleton] at hc
    subst hc
    unfold hasA lookA
    rw [if_pos rfl]
    rfl
theorem lookA_get : ∀ {A : Ahd} {i x : Nat} {v : Option Nat}, (A.map (·.1)).Nodup → A[i]? = some (x, v) → lookA A x = some v
  | [], i, x, v, _, h => by simp at h
  | p :: A, 0, x, v, nd, h => by
    simp at h
    subst h
    unfold lookA
    rw [if_pos rfl]
  | p :: A, i + 1, x, v, nd, h => by
    rw [List.getElem?_cons_succ] at h
    rw [List.map_cons, List.nodup_cons] at nd
    unfold lookA
    rw [if_neg, lookA_get nd.2 h]
    intro z
    exact nd.1 (List.mem_map.mpr ⟨_, List.mem_of_getElem? h, z.symm⟩)
theorem hasA_get {A : Ahd} {x : Nat} (h : hasA A x = true) : ∃ (i : Nat) (v : Option Nat), A[i]? = some (x, v) ∧ i < A.length := by
  rw [hasA_iff, List.mem_map] at h
  obtain ⟨p, hp, rfl⟩ := h
  obtain ⟨i, hi, e⟩ := List.mem_iff_getElem.mp hp
  exact ⟨i, p.2, by rw [List.getElem?_eq_getElem hi, e], hi⟩
theorem atI_last {α : Type} (xs : List α) (x : α) : atI (xs ++ [x]) (-1) = some x := by
  unfold atI ixN
  rw [List.length_append, List.length_singleton]
  rw [if_neg (by omega), if_pos (by omega)]
  show (xs ++ [x])[((-1 : Int) + ((xs.length + 1 : Nat) : Int)).toNat]? = some x
  rw [show ((-1 : Int) + ((xs.length + 1 : Nat) : Int)).toNat = xs.length by omega]
  simp
/-- the row of cells back to where the spread began -/
def chainG : Nat → Ahd → Nat → List Nat
  | 0, _, e => [e]
  | f + 1, A, e => match lookA A e with
    | some (some p) => e :: chainG f A p
    | _ => [e]
theorem chainG_end {f : Nat} {A : Ahd} {e : Nat} (h : lookA A e = some none) : chainG f A e = [e] := by
  cases f with
  | zero => rfl
  | succ f => unfold chainG; rw [h]
theorem chainG_more {f : Nat} {A : Ahd} {e p : Nat} (h : lookA A e = some (some p)) : chainG (f + 1) A e = e :: chainG f A p := by
  rw [chainG, h]
def wayF (A : Ahd) (e : Nat) : Option (List Nat) := if hasA A e then some (chainG A.length A e).reverse else none
def wayD : Option (List Nat) → Dt
  | none => .non
  | some l => .tup (lotW l)
theorem ne_of_sup {S : Store} {a b : Addr} {o : Ob} (h : sup S a o b = none) : b ≠ a := fun z => by
  subst z
  rw [sup_same] at h
  cases h
theorem sub_sdel_none {S S' : Store} {a : Addr} (h : S a = none) (hs : Sub S S') : Sub S (sdel S' a) := fun b o e => by
  have ne : b ≠ a := fun z => by rw [z, h] at e; cases e
  unfold sdel
  rw [if_neg ne]
  exact hs b o e
theorem sub_set {S S' : Store} {a : Addr} {o : Ob} (h : S a = none) (hs : Sub S S') : Sub S (sup S' a o) := fun b u e => by
  have ne : b ≠ a := fun z => by rw [z, h] at e; cases e
  rw [sup_ne ne]
  exact hs b u e
theorem lotW_len (l : List Nat) : (lotW l).length = l.length := List.length_map ..
theorem lotW_get {l : List Nat} {i : Nat} {w : Dt} (h : (lotW l)[i]? = some w) : ∃ c : Nat, l[i]? = some c ∧ w = .int (c : Nat) := by
  unfold lotW at h
  rw [List.getElem?_map, Option.map_eq_some_iff] at h
  obtain ⟨c, e, rfl⟩ := h
  exact ⟨c, e, rfl⟩
theorem ofF_len {R : Rws} (h : GoodF R) (s : Nat) : (ofF R s).length ≤ 144 := by
  unfold ofF
  rw [List.length_map]
  refine Nat.le_trans (List.length_filter_le _ _) ?_
  rw [List.length_zipIdx]
  exact spots_len h
/-- the other homes -/
def othF (R : Rws) (r : Int) : List Nat := ((ofF R 72).zipIdx.filter fun p => !decide ((p.2 : Int) = r)).map (·.1)
theorem ofF_lt {R : Rws} {s c : Nat} (h : c ∈ ofF R s) : c < (spotsF R).length := by
  unfold ofF at h
  rw [List.mem_map] at h
  obtain ⟨p, hp, rfl⟩ := h
  have := (List.mem_filter.mp hp).1
  rw [List.mem_zipIdx_iff_getElem?] at this
  exact (List.getElem?_eq_some_iff.mp this).1
theorem othF_lt {R : Rws} {r : Int} {c : Nat} (h : c ∈ othF R r) : c < (spotsF R).length := by
  unfold othF at h
  rw [List.mem_map] at h
  obtain ⟨p, hp, rfl⟩ := h
  have := (List.mem_filter.mp hp).1
  rw [List.mem_zipIdx_iff_getElem?] at this
  exact ofF_lt (List.mem_of_getElem? this)
def metF (R : Rws) (b : Nat) (l : List Nat) : Ahd := spreadF (tiesF (spotsF R)) (fun o => decide (o ∈ l)) b
def barF (R : Rws) (r s : Nat) : Option (List Nat) := if hasA (metF R ((ofF R 72).getD r 0) (othF R r)) ((ofF R 83).getD s 0) then none
  else some ((othF R r).filter fun c => (tieF (spotsF R) ((spotsF R).getD c (0, 0))).any (hasA (metF R ((ofF R 72).getD r 0) (othF R r))))
def natsOf (n : Nat) : List Dt → Option (List Nat)
  | [] => some []
  | .int i :: ws => if 0 ≤ i ∧ i < (n : Int) then (natsOf n ws).map (i.toNat :: ·) else none
  | _ :: _ => none
def ascB (l : List Nat) : Bool := (l.zip l.tail).all fun p => decide (p.1 < p.2)
def lotOf (n : Nat) : Dt → Option (List Nat)
  | .tup xs => match natsOf n xs with
    | some l => if ascB l then some l else none
    | none => none
  | _ => none
theorem inW_iff {w : Dt} {n : Nat} : inW w 0 ((n : Int) - 1) = true ↔ ∃ i : Nat, w = .int (i : Nat) ∧ i < n := by
  constructor
  · intro h
    cases w with
    | int i =>
      unfold inW at h
      rw [Bool.and_eq_true, decide_eq_true_eq, decide_eq_true_eq] at h
      exact ⟨i.toNat, by congr 1; omega, by omega⟩
    | _ => cases h
  · rintro ⟨i, rfl, h⟩
    show (decide ((0 : Int) ≤ (i : Int)) && decide ((i : Int) ≤ (n : Int) - 1)) = true
    rw [decide_eq_true (by omega), decide_eq_true (by omega)]
    rfl
theorem natsOf_cons {n i : Nat} {ws : List Dt} (h : i < n) : natsOf n (.int (i : Nat) :: ws) = (natsOf n ws).map (i :: ·) := by
  rw [natsOf, if_pos ⟨by omega, by omega⟩]
  rfl
theorem natsOf_some {n : Nat} : ∀ {ws : List Dt} {l : List Nat}, natsOf n ws = some l → ws = lotW l ∧ ∀ c ∈ l, c < n
  | [], l, h => by
    cases h
    exact ⟨rfl, fun c h => nomatch h⟩
  | w :: ws, l, h => by
    cases w with
    | int i =>
      rw [natsOf] at h
      split at h
      · rename_i hi
        rw [Option.map_eq_some_iff] at h
        obtain ⟨m, e, rfl⟩ := h
        obtain ⟨rfl, hm⟩ := natsOf_some e
        refine ⟨?_, fun c hc => ?_⟩
        · show _ = Dt.int ((i.toNat : Nat) : Int) :: lotW m
          congr 2
          omega
        · rcases List.mem_cons.mp hc with rfl | hc
          · omega
          · exact hm c hc
      · cases h
    | _ => cases h
theorem natsOf_lot {n : Nat} : ∀ {l : List Nat}, (∀ c ∈ l, c < n) → natsOf n (lotW l) = some l
  | [], _ => rfl
  | c :: l, h => by
    show natsOf n (.int (c : Nat) :: lotW l) = _
    rw [natsOf_cons (h c List.mem_cons_self), natsOf_lot fun x hx => h x (List.mem_cons_of_mem _ hx)]
    rfl
theorem natsOf_all {n : Nat} : ∀ {ws : List Dt}, ws.all (fun w => inW w 0 ((n : Int) - 1)) = (natsOf n ws).isSome
  | [] => rfl
  | w :: ws => by
    rw [List.all_cons]
    cases h : inW w 0 ((n : Int) - 1) with
    | true =>
      obtain ⟨i, rfl, hi⟩ := inW_iff.mp h
      rw [natsOf_cons hi, Option.isSome_map, Bool.true_and]
      exact natsOf_all
    | false =>
      rw [Bool.false_and]
      cases w with
      | int i =>
        rw [natsOf]
        split
        · rename_i hi
          have : inW (.int i) 0 ((n : Int) - 1) = true := inW_iff.mpr ⟨i.toNat, by congr 1; omega, by omega⟩
          rw [this] at h
          cases h
        · rfl
      | _ => rfl
def isBarF (R : Rws) (r s : Nat) (w : Dt) : Bool := match lotOf (spotsF R).length w with
  | none => false
  | some l => l.all (fun c => decide (c ∈ othF R r)) && !hasA (metF R ((ofF R 72).getD r 0) l) ((ofF R 83).getD s 0)
def openF (R : Rws) (r c : Nat) : Bool := !decide (c ∈ ofF R 72) || decide (c = (ofF R 72).getD r 0)
def okCell (R : Rws) (r : Nat) (w : Dt) : Bool := match w with
  | .int i => decide (0 ≤ i ∧ i < ((spotsF R).length : Int)) && openF R r i.toNat
  | _ => false
def farD : Option (List Nat) → Dt
  | none => .non
  | some l => .int ((l.length : Int) - 1)
theorem lotOf_eq (n : Nat) (xs : List Dt) : lotOf n (.tup xs) = match natsOf n xs with
    | some l => if ascB l then some l else none
    | none => none := rfl
theorem lotOf_some {n : Nat} {w : Dt} {l : List Nat} (h : lotOf n w = some l) : w = .tup (lotW l) ∧ (∀ c ∈ l, c < n) := by
  cases w with
  | tup xs =>
    rw [lotOf_eq] at h
    split at h
    · rename_i l' e
      split at h
      · cases h
        obtain ⟨rfl, h⟩ := natsOf_some e
        exact ⟨rfl, h⟩
      · cases h
    · cases h
  | _ => cases h
theorem zipIdx_fst {α β : Type} (f : α → β) (xs : List α) (n : Nat) : (xs.zipIdx n).map (fun p => f p.1) = xs.map f := by
  induction xs generalizing n with
  | nil => rfl
  | cons x xs ih => rw [List.zipIdx_cons, List.map_cons, List.map_cons, ih]
theorem zipIdx_take {α : Type} {xs : List α} {i n : Nat} {x : α} (h : xs[i]? = some x) : ((xs.zipIdx n).take (i + 1)) = (xs.zipIdx n).take i ++ [(x, n + i)] := by
  rw [List.take_add_one, List.getElem?_zipIdx, h]
  rfl
theorem take_succ {α : Type} {xs : List α} {i : Nat} {x : α} (h : xs[i]? = some x) : xs.take (i + 1) = xs.take i ++ [x] := by
  rw [List.take_add_one, h]
  rfl
theorem map_get {α : Type} {F : α → Dt} {xs : List α} {i : Nat} {w : Dt} (h : (xs.map F)[i]? = some w) : ∃ x, xs[i]? = some x ∧ w = F x := by
  rw [List.getElem?_map, Option.map_eq_some_iff] at h
  obtain ⟨x, e, r⟩ := h
  exact ⟨x, e, r.symm⟩
theorem row_at {r : List Nat} {j : Nat} (h : j < r.length) : atI (⟨r.toArray⟩ : Str).cps.toList (j : Int) = some (r.getD j 0) := by
  show atI r.toArray.toList (j : Int) = _
  have := atI_map (f := id) 0 h
  rw [List.map_id] at this
  exact this
theorem okCell_no {R : Rws} {r : Nat} {w : Dt} (h : inW w 0 (((spotsF R).length : Int) - 1) = false) : okCell R r w = false := by
  cases w with
  | int i =>
    show (decide (0 ≤ i ∧ i < ((spotsF R).length : Int)) && openF R r i.toNat) = false
    by_cases hi : 0 ≤ i ∧ i < ((spotsF R).length : Int)
    · have : inW (.int i) 0 (((spotsF R).length : Int) - 1) = true := inW_iff.mpr ⟨i.toNat, by congr 1; omega, by omega⟩
      rw [this] at h
      cases h
    · rw [decide_eq_false hi]
      rfl
  | _ => rfl
theorem okCell_nat {R : Rws} {r a : Nat} (h : a < (spotsF R).length) : okCell R r (.int (a : Nat)) = openF R r a := by
  show (decide ((0 : Int) ≤ (a : Int) ∧ (a : Int) < ((spotsF R).length : Int)) && openF R r (a : Int).toNat) = _
  rw [decide_eq_true ⟨by omega, by omega⟩, Int.toNat_natCast]
  rfl
theorem spots_take (R : Rws) (i : Nat) : ((R.zipIdx.take i).flatMap fun p => rowSp p.2 p.1).length ≤ (spotsF R).length := by
  have : spotsF R = ((R.zipIdx.take i).flatMap fun p => rowSp p.2 p.1) ++ ((R.zipIdx.drop i).flatMap fun p => rowSp p.2 p.1) := by
    unfold spotsF
    rw [← List.flatMap_append, List.take_append_drop]
  rw [this, List.length_append]
  exact Nat.le_add_right _ _
theorem spots_more {R : Rws} {i j : Nat} {r : List Nat} (h : R.zipIdx[i]? = some (r, j)) : ((R.zipIdx.take (i + 1)).flatMap fun p => rowSp p.2 p.1) = ((R.zipIdx.take i).flatMap fun p => rowSp p.2 p.1) ++ rowSp j r := by
  rw [take_succ h, List.flatMap_append]
  congr 1
  rw [List.flatMap_cons, List.flatMap_nil, List.append_nil]
theorem dlook_sp {S : Store} {sp : List (Nat × Nat)} (q : Int × Int) : dlook S (.dT (sp.map kyP) (sp.zipIdx.map fun p => .int (p.2 : Nat))) (.tup [.int q.1, .int q.2]) = some ((lookP sp 0 q).map fun i => .int (i : Nat)) := congrArg some (lkW_look sp 0 q)
def lenW : Dt → Nat
  | .str z => z.length
  | _ => 0
def frowW : Dt → Bool
  | .str z => decide (1 ≤ z.length) && decide (z.length ≤ 12) && z.cps.toList.all isSg
  | _ => false
/-- the first of a thing's parts that is no row -/
def badRow (ws : List Dt) : Option Nat := ws.findIdx? fun w => !frowW w || !decide (lenW w = lenW (ws.headD .non))
def rowOf : Dt → List Nat
  | .str z => z.cps.toList
  | _ => []
def szW : Dt → Int → Int → Bool
  | .tup xs, lo, hi => decide (lo ≤ (xs.length : Int)) && decide ((xs.length : Int) ≤ hi)
  | _, _, _ => false
/-- what is wrong with the rows of a floor -/
def badW (w : Dt) : Option Dt := match w with
    | .tup ws => if 1 ≤ ws.length ∧ ws.length ≤ 12 then match badRow ws with
      | some k => some (.int (k : Nat))
      | none => if 1 ≤ homesF (ws.map rowOf) ∧ homesF (ws.map rowOf) ≤ 6 then none else some (.str "homes")
      else some (.int (-1))
    | _ => some (.int (-1))
theorem frowW_of {w : Dt} (h : frowW w = true) : ∃ z : Str, w = .str z ∧ 1 ≤ z.length ∧ z.length ≤ 12 ∧ z.cps.toList.all isSg = true ∧ lenW w = z.length ∧ rowS (rowOf w) = w ∧ (rowOf w).length = z.length := by
  cases w with
  | str z =>
    have h : (decide (1 ≤ z.length) && decide (z.length ≤ 12) && z.cps.toList.all isSg) = true := h
    rw [Bool.and_eq_true, Bool.and_eq_true, decide_eq_true_iff, decide_eq_true_iff] at h
    refine ⟨z, rfl, h.1.1, h.1.2, h.2, rfl, ?_, Array.length_toList⟩
    show Dt.str ⟨z.cps.toList.toArray⟩ = .str z
    congr 1
  | _ => cases h
theorem badRow_some {ws : List Dt} {i : Nat} {w : Dt} (e : ws[i]? = some w) (hb : (!frowW w || !decide (lenW w = lenW (ws.headD .non))) = true) (h : ∀ (j : Nat) (v : Dt), j < i → ws[j]? = some v → (!frowW v || !decide (lenW v = lenW (ws.headD .non))) = false) : badRow ws = some i := by
  unfold badRow
  rw [List.findIdx?_eq_some_iff_getElem]
  obtain ⟨hi, ei⟩ := List.getElem?_eq_some_iff.mp e
  refine ⟨hi, by rw [ei]; exact hb, fun j hj => ?_⟩
  have := h j (ws[j]'(by omega)) hj (List.getElem?_eq_getElem (by omega))
  rw [this]
  exact Bool.false_ne_true
theorem badRow_none {ws : List Dt} (h : ∀ (j : Nat) (v : Dt), ws[j]? = some v → (!frowW v || !decide (lenW v = lenW (ws.headD .non))) = false) : badRow ws = none := by
  unfold badRow
  rw [List.findIdx?_eq_none_iff]
  intro x hx
  obtain ⟨j, hj, e⟩ := List.mem_iff_getElem.mp hx
  exact h j x (by rw [List.getElem?_eq_getElem hj, e])
theorem rows_of {ws : List Dt} (h : ∀ w ∈ ws, frowW w = true) : (ws.map rowOf).map rowS = ws := by
  rw [List.map_map]
  have : ∀ w ∈ ws, (rowS ∘ rowOf) w = w := fun w hw => (frowW_of (h w hw)).choose_spec.2.2.2.2.2.1
  conv => rhs; rw [← List.map_id ws]
  exact List.map_congr_left this
theorem good_of {ws : List Dt} (h1 : 1 ≤ ws.length) (h2 : ws.length ≤ 12) (h : ∀ (j : Nat) (v : Dt), ws[j]? = some v → (!frowW v || !decide (lenW v = lenW (ws.headD .non))) = false) (o1 : 1 ≤ homesF (ws.map rowOf)) (o2 : homesF (ws.map rowOf) ≤ 6) : GoodF (ws.map rowOf) := by
  have fr : ∀ w ∈ ws, frowW w = true ∧ lenW w = lenW (ws.headD .non) := fun w hw => by
    obtain ⟨j, hj, e⟩ := List.mem_iff_getElem.mp hw
    have := h j w (by rw [List.getElem?_eq_getElem hj, e])
    rw [Bool.or_eq_false_iff, Bool.not_eq_false', Bool.not_eq_false', decide_eq_true_iff] at this
    exact this
  have hd : wideF (ws.map rowOf) = lenW (ws.headD .non) ∧ 1 ≤ lenW (ws.headD .non) ∧ lenW (ws.headD .non) ≤ 12 := by
    cases ws with
    | nil => exact absurd h1 (by decide)
    | cons w ws =>
      obtain ⟨z, rfl, a, b, c, d, e, f⟩ := frowW_of (fr w List.mem_cons_self).1
      exact ⟨f, a, b⟩
  refine ⟨by rw [List.length_map]; exact h1, by rw [List.length_map]; exact h2, fun r hr => ?_, by rw [hd.1]; exact hd.2.1, by rw [hd.1]; exact hd.2.2, fun r hr => ?_, o1, o2⟩
  · obtain ⟨w, hw, rfl⟩ := List.mem_map.mp hr
    obtain ⟨z, e1, a, b, c, d, e, f⟩ := frowW_of (fr w hw).1
    rw [hd.1, ← (fr w hw).2, d, f]
  · obtain ⟨w, hw, rfl⟩ := List.mem_map.mp hr
    obtain ⟨z, rfl, a, b, c, d, e, f⟩ := frowW_of (fr w hw).1
    exact List.all_eq_true.mp c
theorem rowS_inj {r q : List Nat} (h : rowS r = rowS q) : r = q := by
  unfold rowS at h
  injection h with h
  have := congrArg (fun z : Str => z.cps.toList) h
  simpa using this
theorem rows_inj {R R' : Rws} (h : (.tup (R.map rowS) : Dt) = .tup (R'.map rowS)) : R = R' := by
  injection h with h
  induction R generalizing R' with
  | nil => cases R' with
    | nil => rfl
    | cons r R' => cases h
  | cons r R ih => cases R' with
    | nil => cases h
    | cons r' R' =>
      rw [List.map_cons, List.map_cons] at h
      have := List.cons.inj h
      rw [rowS_inj this.1, ih this.2]
theorem rowOf_rowS (R : Rws) : (R.map rowS).map rowOf = R := by
  rw [List.map_map]
  conv => rhs; rw [← List.map_id R]
  refine List.map_congr_left fun r _ => ?_
  show r.toArray.toList = r
  simp
theorem frowW_row {R : Rws} (h : GoodF R) {r : List Nat} (hr : r ∈ R) : frowW (rowS r) = true := by
  show (decide (1 ≤ (⟨r.toArray⟩ : Str).length) && decide ((⟨r.toArray⟩ : Str).length ≤ 12) && r.toArray.toList.all isSg) = true
  have := h.w1
  have := h.w2
  rw [rowS_len, h.wl r hr, decide_eq_true (by omega), decide_eq_true (by omega)]
  have e : r.toArray.toList = r := by simp
  rw [e, Bool.true_and, Bool.true_and, List.all_eq_true]
  exact h.sg r hr
theorem badW_good {R : Rws} (h : GoodF R) : badW (.tup (R.map rowS)) = none := by
  have h1 := h.h1
  have h2 := h.h2
  have bn : badRow (R.map rowS) = none := badRow_none fun j v e => by
    obtain ⟨r, hr, rfl⟩ := List.mem_map.mp (List.mem_of_getElem? e)
    rw [frowW_row h hr]
    have l1 : lenW (rowS r) = wideF R := by
      show (⟨r.toArray⟩ : Str).length = _
      rw [rowS_len, h.wl r hr]
    have l2 : lenW ((R.map rowS).headD .non) = wideF R := by
      cases R with
      | nil => cases h1
      | cons q R =>
        show (⟨q.toArray⟩ : Str).length = _
        rw [rowS_len]
        rfl
    rw [l1, l2, decide_eq_true rfl]
    rfl
  show (if 1 ≤ (R.map rowS).length ∧ (R.map rowS).length ≤ 12 then _ else _) = _
  rw [List.length_map, if_pos ⟨h1, h2⟩, bn]
  dsimp only
  rw [rowOf_rowS, if_pos ⟨h.o1, h.o2⟩]
theorem rows_pl (R : Rws) : pl (.tup (R.map rowS)) = true := pl_tup_of fun w h => by
  obtain ⟨r, _, rfl⟩ := List.mem_map.mp h
  rfl
theorem ofF_pos {R : Rws} (h : GoodF R) : 0 < (ofF R 72).length := by
  have : ∀ Q : Rws, 1 ≤ homesF Q → ∃ i, i < Q.length ∧ 72 ∈ Q.getD i [] := by
    intro Q
    induction Q with
    | nil => intro h; cases h
    | cons r Q ih =>
      intro h
      by_cases hr : 72 ∈ r
      · exact ⟨0, Nat.succ_pos _, hr⟩
      · unfold homesF at h
        rw [List.map_cons, List.sum_cons, List.count_eq_zero_of_not_mem hr, Nat.zero_add] at h
        obtain ⟨i, hi, hm⟩ := ih h
        exact ⟨i + 1, by rw [List.length_cons]; omega, by rw [List.getD_cons_succ]; exact hm⟩
  obtain ⟨i, hi, hm⟩ := this R h.o1
  obtain ⟨j, hj, e⟩ := List.mem_iff_getElem.mp hm
  have sg : signF R (i, j) = 72 := by
    unfold signF
    rw [getD_get hj, e]
  have hs : (i, j) ∈ spotsF R := mem_spots.mpr ⟨hi, hj, by rw [sg]; decide⟩
  obtain ⟨c, hc, ec⟩ := List.mem_iff_getElem.mp hs
  have : c ∈ ofF R 72 := by
    unfold ofF
    rw [range_filter (0, 0) (spotsF R) (fun p => decide (signF R p = 72)), List.mem_filter, List.mem_range]
    exact ⟨hc, by rw [getD_get hc, ec]; exact decide_eq_true sg⟩
  exact List.length_pos_of_mem this
theorem niceL_of : ∀ {ws : List Dt}, (∀ w ∈ ws, nice w = true) → nice.niceL ws = true
  | [], _ => rfl
  | w :: ws, h => by
    unfold nice.niceL
    rw [h w List.mem_cons_self, niceL_of fun x hx => h x (List.mem_cons_of_mem _ hx)]
    rfl
theorem depL_le : ∀ {ws : List Dt} {n : Nat}, (∀ w ∈ ws, dep w ≤ n) → dep.depL ws ≤ n
  | [], _, _ => Nat.zero_le _
  | w :: ws, n, h => by
    unfold dep.depL
    exact Nat.max_le.mpr ⟨h w List.mem_cons_self, depL_le fun x hx => h x (List.mem_cons_of_mem _ hx)⟩
theorem rows_nice (R : Rws) : nice (.tup (R.map rowS)) = true := by
  unfold nice
  refine niceL_of fun w hw => ?_
  obtain ⟨r, _, rfl⟩ := List.mem_map.mp hw
  rfl
theorem rows_dep (R : Rws) : dep (.tup (R.map rowS)) ≤ 1 := by
  unfold dep
  have : dep.depL (R.map rowS) ≤ 0 := depL_le fun w hw => by
    obtain ⟨r, _, rfl⟩ := List.mem_map.mp hw
    exact Nat.le_refl _
  omega
theorem head_at {xs : List Dt} (h : 1 ≤ xs.length) : xs[0]? = some (xs.headD .non) ∧ atI xs 0 = some (xs.headD .non) := by
  cases xs with
  | nil => exact absurd h (by decide)
  | cons x xs => exact ⟨rfl, at_0⟩
theorem cnt_count (c : Nat) : ∀ l : List Nat, cnt c l = (l.count c : Nat)
  | [] => rfl
  | n :: r => by
    rw [cnt_cons, cnt_count c r, List.count_cons]
    by_cases h : n = c
    · rw [if_pos h, if_pos (by simpa using h)]
      omega
    · rw [if_neg h, if_neg (by simpa using h)]
      omega
theorem count_row (r : List Nat) : Txt.count ⟨r.toArray⟩ ("H" : Str) = (r.count 72 : Nat) := by
  rw [strH, count_cnt, cnt_count]
theorem sum_count : ∀ R : Rws, (R.map fun r => ((r.count 72 : Nat) : Int)).sum = (homesF R : Nat)
  | [] => rfl
  | r :: R => by
    rw [List.map_cons, List.sum_cons, sum_count R]
    unfold homesF
    rw [List.map_cons, List.sum_cons]
    omega
theorem othF_eq (R : Rws) (r : Int) : othF R r = ((List.range (ofF R 72).length).filter fun (k : Nat) => !decide ((k : Int) = r)).map fun (k : Nat) => (ofF R 72).getD k 0 := by
  unfold othF
  rw [zipIdx_eq 0, List.filter_map, List.map_map]
  rfl
theorem ofF_nodup (R : Rws) (s : Nat) : (ofF R s).Nodup := by
  unfold ofF
  rw [range_filter (0, 0) (spotsF R) (fun p => decide (signF R p = s))]
  exact List.nodup_range.filter _
theorem nodup_inj {l : List Nat} (nd : l.Nodup) {i j : Nat} (hi : i < l.length) (hj : j < l.length) (e : l[i] = l[j]) : i = j := by
  have h := List.pairwise_iff_getElem.mp nd
  rcases Nat.lt_trichotomy i j with z | z | z
  · exact absurd e (h i j hi hj z)
  · exact z
  · exact absurd e.symm (h j i hj hi z)
theorem mem_oth {R : Rws} {r c : Nat} (hr : r < (ofF R 72).length) : c ∈ othF R r ↔ c ∈ ofF R 72 ∧ c ≠ (ofF R 72).getD r 0 := by
  rw [othF_eq, List.mem_map]
  constructor
  · rintro ⟨k, hk, rfl⟩
    rw [List.mem_filter, List.mem_range] at hk
    refine ⟨getD_mem hk.1, fun z => ?_⟩
    rw [getD_get hk.1, getD_get hr] at z
    have : k = r := nodup_inj (ofF_nodup R 72) hk.1 hr z
    have h2 := hk.2
    rw [this] at h2
    simp at h2
  · rintro ⟨hc, hne⟩
    obtain ⟨k, hk, e⟩ := List.mem_iff_getElem.mp hc
    refine ⟨k, ?_, by rw [getD_get hk, e]⟩
    rw [List.mem_filter, List.mem_range]
    refine ⟨hk, ?_⟩
    have : k ≠ r := fun z => by
      subst z
      rw [getD_get hk, e] at hne
      exact hne rfl
    simp
    omega
theorem open_oth {R : Rws} {r c : Nat} (hr : r < (ofF R 72).length) : openF R r c = !decide (c ∈ othF R r) := by
  unfold openF
  rw [Bool.eq_iff_iff, Bool.or_eq_true, Bool.not_eq_true', Bool.not_eq_true', decide_eq_true_iff, decide_eq_false_iff_not, decide_eq_false_iff_not, mem_oth hr]
  constructor
  · rintro (h | h) z
    · exact h z.1
    · exact z.2 h
  · intro h
    by_cases hc : c ∈ ofF R 72
    · exact .inr (Classical.byContradiction fun z => h ⟨hc, z⟩)
    · exact .inl hc
theorem rng_get {n i : Nat} {w : Dt} (h : ((List.range n).map fun i => Dt.int (i : Nat))[i]? = some w) : i < n ∧ w = .int (i : Nat) := by
  obtain ⟨j, ej, rfl⟩ := map_get h
  obtain ⟨a, b⟩ := List.getElem?_eq_some_iff.mp ej
  rw [List.length_range] at a
  rw [List.getElem_range] at b
  exact ⟨a, by rw [b]⟩
theorem zip_get {α : Type} {F : α × Nat → Dt} {xs : List α} {i : Nat} {w : Dt} (d : α) (h : (xs.zipIdx.map F)[i]? = some w) : i < xs.length ∧ w = F (xs.getD i d, i) := by
  obtain ⟨⟨x, j⟩, ej, rfl⟩ := map_get h
  obtain ⟨a, b⟩ := List.getElem?_eq_some_iff.mp ej
  rw [List.length_zipIdx] at a
  rw [List.getElem_zipIdx, Nat.zero_add] at b
  rw [← b]
  exact ⟨a, by rw [getD_get a]⟩
theorem atI_neg1 {α : Type} {xs : List α} {d : Nat} (h : xs.length = d + 1) : atI xs (-1) = xs[d]? := by
  unfold atI ixN
  rw [h, if_neg (by omega), if_pos (by omega)]
  show xs[((-1 : Int) + ((d + 1 : Nat) : Int)).toNat]? = _
  congr 1
  omega
theorem lotW_at {l : List Nat} {i c : Nat} (h : l[i]? = some c) : (lotW l)[i]? = some (.int (c : Nat)) := by
  unfold lotW
  rw [List.getElem?_map, h]
  rfl
theorem inW_lt {i n : Nat} (h : i < n) : inW (.int (i : Nat)) 0 ((n : Int) - 1) = true := inW_iff.mpr ⟨i, rfl, h⟩
def optP : Option (Nat × Nat) → Dt
  | none => .non
  | some p => spD p
theorem optP_ok (o : Option (Nat × Nat)) : pl (optP o) = true ∧ nice (optP o) = true ∧ dep (optP o) ≤ 1 ∧ isNon (optP o) = o.isNone := by
  cases o with
  | none => exact ⟨rfl, rfl, Nat.zero_le _, rfl⟩
  | some p => exact ⟨rfl, rfl, Nat.le_of_ble_eq_true rfl, rfl⟩
theorem sameW_int {i j : Int} (h : i = j) : sameW (.int i) (.int j) = true := by
  unfold sameW
  exact decide_eq_true h
theorem cutW_from1 {α : Type} (xs : List α) : cutW xs (some 1) none = xs.tail := by
  cases xs with
  | nil => rfl
  | cons x xs =>
    unfold cutW HT.sIx
    show (List.drop (min 1 (xs.length + 1)) (x :: xs)).take (xs.length + 1 - min 1 (xs.length + 1)) = xs
    rw [Nat.min_eq_left (by omega), List.drop_succ_cons, List.drop_zero, List.take_of_length_le (by omega)]
theorem zipW_map {α β : Type} (f : α → Dt) (g : β → Dt) : ∀ (xs : List α) (ys : List β), zipW (xs.map f) (ys.map g) = (xs.zip ys).map fun p => .tup [f p.1, g p.2]
  | [], _ => rfl
  | _ :: _, [] => rfl
  | x :: xs, y :: ys => by
    rw [List.map_cons, List.map_cons, List.zip_cons_cons, List.map_cons, ← zipW_map f g xs ys]
    rfl
/-! ### what a spread tells -/
inductive Rch (ties : List (List Nat)) (sh : Nat → Bool) (b : Nat) : Nat → Nat → Prop where
  | zero : Rch ties sh b 0 b
  | step {k c o : Nat} (h : Rch ties sh b k c) (ho : o ∈ ties.getD c []) (hs : sh o = false) : Rch ties sh b (k + 1) o
def IsD (ties : List (List Nat)) (sh : Nat → Bool) (b c d : Nat) : Prop := Rch ties sh b d c ∧ ∀ k, Rch ties sh b k c → d ≤ k
theorem IsD.uniq {ties : List (List Nat)} {sh : Nat → Bool} {b c d e : Nat} (h : IsD ties sh b c d) (h2 : IsD ties sh b c e) : d = e := by
  have := h.2 e h2.1
  have := h2.2 d h.1
  omega
/-- how far the cells are, as long as the spread goes on: s.1 all, s.2 those of the next wave, wt those whose neighbours are still to be seen -/
structure Lv (ties : List (List Nat)) (sh : Nat → Bool) (b d : Nat) (wt : List Nat) (s : Ahd × List Nat) (lev : Nat → Nat) : Prop where
  b0 : lev b = 0
  hb : hasA s.1 b = true
  up : ∀ c p, lookA s.1 c = some (some p) → hasA s.1 p = true ∧ lev c = lev p + 1 ∧ c ∈ ties.getD p [] ∧ sh c = false
  no : ∀ c, lookA s.1 c = some none → c = b
  ow : ∀ c ∈ wt, hasA s.1 c = true ∧ lev c = d
  on : ∀ c ∈ s.2, hasA s.1 c = true ∧ lev c = d + 1
  le : ∀ c, hasA s.1 c = true → c ∉ s.2 → lev c ≤ d
  cl : ∀ c, hasA s.1 c = true → c ∉ wt → c ∉ s.2 → ∀ o ∈ ties.getD c [], sh o = false → hasA s.1 o = true ∧ lev o ≤ lev c + 1
section
variable {ties : List (List Nat)} {sh : Nat → Bool} {b d : Nat}
theorem lookA_put {A : Ahd} {o x : Nat} {v : Option Nat} (h : hasA A o = false) : lookA (A ++ [(o, v)]) x = if x = o then some v else lookA A x := by
  rw [lookA_app]
  unfold hasA at h
  rw [Option.isSome_eq_false_iff, Option.isNone_iff_eq_none] at h
  by_cases e : x = o
  · subst e
    rw [if_pos rfl, h]
    show lookA [(x, v)] x = some v
    unfold lookA
    rw [if_pos rfl]
  · rw [if_neg e]
    have : lookA [(o, v)] x = none := by
      unfold lookA
      rw [if_neg (fun z => e z.symm)]
      rfl
    rw [this, Option.or_none]
theorem hasA_put {A : Ahd} {o x : Nat} {v : Option Nat} : hasA (A ++ [(o, v)]) x = true ↔ hasA A x = true ∨ x = o := by
  rw [hasA_iff, hasA_iff, List.map_append, List.mem_append]
  simp
/-- one neighbour of a cell of the wave is seen -/
theorem Lv.visit {wt : List Nat} {s : Ahd × List Nat} {lev : Nat → Nat} (h : Lv ties sh b d wt s lev) {c o : Nat} (hc : hasA s.1 c = true) (ec : lev c = d) (ho : o ∈ ties.getD c []) (hcs : c ∉ s.2) :
    ∃ lev' : Nat → Nat, Lv ties sh b d wt (visit1 sh c s o) lev' ∧ (∀ x, hasA s.1 x = true → lev' x = lev x) ∧ (sh o = false → hasA (visit1 sh c s o).1 o = true ∧ lev' o ≤ d + 1) ∧ c ∉ (visit1 sh c s o).2 := by
  unfold visit1
  by_cases hv : hasA s.1 o = false ∧ sh o = false
  · rw [if_pos hv]
    have ne : ∀ x, hasA s.1 x = true → x ≠ o := fun x hx z => by
      rw [z, hv.1] at hx
      cases hx
    refine ⟨fun x => if x = o then d + 1 else lev x, ⟨?_, ?_, ?_, ?_, ?_, ?_, ?_, ?_⟩, fun x hx => if_neg (ne x hx), fun _ => ⟨hasA_put.mpr (.inr rfl), by show (if o = o then d + 1 else lev o) ≤ d + 1; rw [if_pos rfl]; exact Nat.le_refl _⟩, ?_⟩
    · rw [if_neg (ne b h.hb)]
      exact h.b0
    · exact hasA_put.mpr (.inl h.hb)
    · intro x p e
      rw [lookA_put hv.1] at e
      by_cases ex : x = o
      · rw [if_pos ex] at e
        cases e
        subst ex
        rw [if_pos rfl, if_neg (ne c hc), ec]
        exact ⟨hasA_put.mpr (.inl hc), rfl, ho, hv.2⟩
      · rw [if_neg ex] at e
        have := h.up x p e
        rw [if_neg ex, if_neg (ne p this.1)]
        exact ⟨hasA_put.mpr (.inl this.1), this.2⟩
    · intro x e
      rw [lookA_put hv.1] at e
      by_cases ex : x = o
      · rw [if_pos ex] at e
        cases e
      · rw [if_neg ex] at e
        exact h.no x e
    · intro x hx
      have := h.ow x hx
      rw [if_neg (ne x this.1)]
      exact ⟨hasA_put.mpr (.inl this.1), this.2⟩
    · intro x hx
      rcases List.mem_append.mp hx with hx | hx
      · have := h.on x hx
        rw [if_neg (ne x this.1)]
        exact ⟨hasA_put.mpr (.inl this.1), this.2⟩
      · rw [List.mem_singleton] at hx
        rw [if_pos hx]
        exact ⟨hasA_put.mpr (.inr hx), rfl⟩
    · intro x hx hn
      rcases hasA_put.mp hx with hx | hx
      · rw [if_neg (ne x hx)]
        exact h.le x hx fun z => hn (List.mem_append_left _ z)
      · exact absurd (List.mem_append_right _ (List.mem_singleton.mpr hx)) hn
    · intro x hx hw hn y hy hs
      rcases hasA_put.mp hx with hx | hx
      · have := h.cl x hx hw (fun z => hn (List.mem_append_left _ z)) y hy hs
        rw [if_neg (ne x hx), if_neg (ne y this.1)]
        exact ⟨hasA_put.mpr (.inl this.1), this.2⟩
      · exact absurd (List.mem_append_right _ (List.mem_singleton.mpr hx)) hn
    · intro hx
      rcases List.mem_append.mp hx with hx | hx
      · exact hcs hx
      · rw [List.mem_singleton] at hx
        exact ne c hc hx
  · rw [if_neg hv]
    refine ⟨lev, h, fun _ _ => rfl, fun hs => ?_, hcs⟩
    have ho' : hasA s.1 o = true := by
      cases e : hasA s.1 o with
      | true => rfl
      | false => exact absurd ⟨e, hs⟩ hv
    refine ⟨ho', ?_⟩
    by_cases hm : o ∈ s.2
    · exact Nat.le_of_eq (h.on o hm).2
    · have := h.le o ho' hm
      omega
theorem Lv.visits {wt : List Nat} {c : Nat} : ∀ {os : List Nat} {s : Ahd × List Nat} {lev : Nat → Nat}, Lv ties sh b d wt s lev → hasA s.1 c = true → lev c = d → c ∉ s.2 → (∀ o ∈ os, o ∈ ties.getD c []) →
    ∃ lev' : Nat → Nat, Lv ties sh b d wt (os.foldl (visit1 sh c) s) lev' ∧ (∀ x, hasA s.1 x = true → lev' x = lev x) ∧ (∀ o ∈ os, sh o = false → hasA (os.foldl (visit1 sh c) s).1 o = true ∧ lev' o ≤ d + 1) ∧ c ∉ (os.foldl (visit1 sh c) s).2
  | [], s, lev, h, _, _, hcs, _ => ⟨lev, h, fun _ _ => rfl, (fun o ho => nomatch ho), hcs⟩
  | o :: os, s, lev, h, hc, ec, hcs, ho => by
    obtain ⟨l1, h1, k1, v1, n1⟩ := h.visit hc ec (ho o List.mem_cons_self) hcs
    obtain ⟨l2, h2, k2, v2, n2⟩ := h1.visits (os := os) (visit1_has hc) ((k1 c hc).trans ec) n1 fun x hx => ho x (List.mem_cons_of_mem _ hx)
    refine ⟨l2, h2, fun x hx => (k2 x (visit1_has hx)).trans (k1 x hx), fun x hx hs => ?_, n2⟩
    rcases List.mem_cons.mp hx with rfl | hx
    · have := v1 hs
      exact ⟨visits_has (s := visit1 sh c s x) this.1, by rw [k2 x this.1]; exact this.2⟩
    · exact v2 x hx hs
theorem Lv.wave : ∀ {wt : List Nat} {s : Ahd × List Nat} {lev : Nat → Nat}, Lv ties sh b d wt s lev → (∀ c ∈ wt, c ∉ s.2) → ∃ lev' : Nat → Nat, Lv ties sh b d [] (wt.foldl (visitC ties sh) s) lev'
  | [], s, lev, h, _ => ⟨lev, h⟩
  | c :: wt, s, lev, h, hn => by
    have hc := h.ow c List.mem_cons_self
    obtain ⟨l1, h1, k1, v1, n1⟩ := h.visits (c := c) (os := ties.getD c []) hc.1 hc.2 (hn c List.mem_cons_self) fun o ho => ho
    have h2 : Lv ties sh b d wt (visitC ties sh s c) l1 := ⟨h1.b0, h1.hb, h1.up, h1.no, fun x hx => h1.ow x (List.mem_cons_of_mem _ hx), h1.on, h1.le, fun x hx hw hn o ho hs => by
      by_cases e : x = c
      · subst e
        have := v1 o ho hs
        rw [k1 x hc.1, hc.2]
        exact this
      · exact h1.cl x hx (fun z => (List.mem_cons.mp z).elim e hw) hn o ho hs⟩
    refine h2.wave fun x hx hm => ?_
    have a := (h2.on x hm).2
    have b := (h2.ow x hx).2
    omega
theorem spreadG_lv : ∀ {f : Nat} {d : Nat} {A : Ahd} {wt : List Nat} {lev : Nat → Nat} {n : Nat}, Lv ties sh b d wt (A, []) lev → WfA n A → (∀ c o, o ∈ ties.getD c [] → o < n) → (wt ≠ [] → n + 1 ≤ f + A.length) → ∃ (d' : Nat) (lev' : Nat → Nat), Lv ties sh b d' [] (spreadG ties sh f A wt, []) lev'
  | f, d, A, wt, lev, n, h, wA, ht, hf => by
    by_cases e : wt = []
    · subst e
      rw [spreadG_nil]
      exact ⟨d, lev, h⟩
    · have hf := hf e
      have len := wA.len
      cases f with
      | zero => omega
      | succ f =>
        rw [spreadG_step e]
        obtain ⟨l1, h1⟩ := h.wave fun c _ hc => nomatch hc
        have w1 := waves_wf (sh := sh) (k := A.length) ht (s := (A, [])) (cs := wt) ⟨wA, rfl, fun c hc => by cases hc⟩ fun c hc => (h.ow c hc).1
        have h2 : Lv ties sh b (d + 1) (waveF ties sh A wt).2 ((waveF ties sh A wt).1, []) l1 := ⟨h1.b0, h1.hb, h1.up, h1.no, h1.on, (fun c hc => nomatch hc), (fun c hc _ => by
          by_cases hm : c ∈ (waveF ties sh A wt).2
          · exact Nat.le_of_eq (h1.on c hm).2
          · have := h1.le c hc hm
            omega), fun c hc hw _ o ho hs => h1.cl c hc (fun z => nomatch z) hw o ho hs⟩
        refine spreadG_lv h2 w1.wa ht fun ne => ?_
        have := w1.ln
        have hp := List.length_pos_iff.mpr ne
        have e1 : (waveF ties sh A wt).1.length = A.length + (waveF ties sh A wt).2.length := this
        omega
theorem spreadF_lv {n : Nat} (hb : b < n) (hn : ties.length = n) (ht : ∀ c o, o ∈ ties.getD c [] → o < n) : ∃ (d' : Nat) (lev' : Nat → Nat), Lv ties sh b d' [] (spreadF ties sh b, []) lev' := by
  have one : hasA [(b, none)] b = true := by
    unfold hasA lookA
    rw [if_pos rfl]
    rfl
  have only : ∀ x, hasA [(b, none)] x = true → x = b := fun x hx => by
    rw [hasA_iff] at hx
    simpa using hx
  refine spreadG_lv (d := 0) (lev := fun _ => 0) (n := n) ⟨rfl, one, fun c p e => ?_, fun c e => ?_, fun c hc => ?_, (fun c hc => nomatch hc), fun _ _ _ => Nat.le_refl _, fun c hc hw _ => ?_⟩ (.one hb) ht (fun _ => by rw [hn]; exact Nat.le_add_right _ _)
  · unfold lookA at e
    split at e
    · cases e
    · cases e
  · have : hasA [(b, none)] c = true := by unfold hasA; rw [e]; rfl
    exact only c this
  · rw [List.mem_singleton] at hc
    subst hc
    exact ⟨one, rfl⟩
  · exact absurd (List.mem_singleton.mpr (only c hc)) hw
/-- a spread comes just to where a way comes, and a way of the fewest cells is told -/
structure Spr (ties : List (List Nat)) (sh : Nat → Bool) (b n : Nat) (A : Ahd) (lev : Nat → Nat) : Prop where
  wf : WfA n A
  to : ∀ c, hasA A c = true → IsD ties sh b c (lev c)
  of : ∀ c k, Rch ties sh b k c → hasA A c = true
  b0 : lev b = 0
  up : ∀ c p, lookA A c = some (some p) → hasA A p = true ∧ lev c = lev p + 1 ∧ c ∈ ties.getD p [] ∧ sh c = false
  no : ∀ c, lookA A c = some none → c = b
  lt : ∀ c, hasA A c = true → lev c < A.length
theorem spreadF_spr {n : Nat} (hb : b < n) (hn : ties.length = n) (ht : ∀ c o, o ∈ ties.getD c [] → o < n) : ∃ lev : Nat → Nat, Spr ties sh b n (spreadF ties sh b) lev := by
  obtain ⟨d', lev, h⟩ := spreadF_lv (sh := sh) hb hn ht
  have wf : WfA n (spreadF ties sh b) := spreadG_wf ht (.one hb) fun c hc => by
    rw [List.mem_singleton] at hc
    subst hc
    unfold hasA lookA
    rw [if_pos rfl]
    rfl
  have of : ∀ c k, Rch ties sh b k c → hasA (spreadF ties sh b) c = true ∧ lev c ≤ k := by
    intro c k r
    induction r with
    | zero => exact ⟨h.hb, Nat.le_of_eq h.b0⟩
    | step r ho hs ih =>
      have := h.cl _ ih.1 (fun z => nomatch z) (fun z => nomatch z) _ ho hs
      exact ⟨this.1, by omega⟩
  have rc : ∀ (m c : Nat), lev c ≤ m → hasA (spreadF ties sh b) c = true → Rch ties sh b (lev c) c := by
    intro m
    induction m with
    | zero =>
      intro c hm hc
      obtain ⟨v, e⟩ := Option.isSome_iff_exists.mp (show (lookA (spreadF ties sh b) c).isSome = true from hc)
      cases v with
      | none =>
        rw [h.no c e, h.b0]
        exact .zero
      | some p =>
        have := (h.up c p e).2.1
        omega
    | succ m ih =>
      intro c hm hc
      obtain ⟨v, e⟩ := Option.isSome_iff_exists.mp (show (lookA (spreadF ties sh b) c).isSome = true from hc)
      cases v with
      | none =>
        rw [h.no c e, h.b0]
        exact .zero
      | some p =>
        have := h.up c p e
        rw [this.2.1]
        exact .step (ih p (by omega) this.1) this.2.2.1 this.2.2.2
  refine ⟨lev, wf, fun c hc => ⟨rc _ c (Nat.le_refl _) hc, fun k r => (of c k r).2⟩, fun c k r => (of c k r).1, h.b0, h.up, h.no, fun c hc => ?_⟩
  have ix : ∀ (i c : Nat) (v : Option Nat), (spreadF ties sh b)[i]? = some (c, v) → lev c ≤ i := by
    intro i
    induction i using Nat.strongRecOn with
    | _ i ih =>
      intro c v e
      have lk := lookA_get wf.nd e
      cases v with
      | none =>
        rw [h.no c lk, h.b0]
        exact Nat.zero_le _
      | some p =>
        obtain ⟨j, q, hj, ej⟩ := wf.up i c p e
        have := ih j hj p q ej
        have := (h.up c p lk).2.1
        omega
  obtain ⟨i, v, e, hi⟩ := hasA_get hc
  have := ix i c v e
  omega
/-- the way that a spread tells -/
structure WayOk (ties : List (List Nat)) (sh : Nat → Bool) (b e n d : Nat) (l : List Nat) : Prop where
  ln : l.length = d + 1
  h0 : l[0]? = some b
  hl : l[d]? = some e
  lt : ∀ c ∈ l, c < n
  sh : ∀ (k c : Nat), l[k + 1]? = some c → sh c = false
  nx : ∀ (k c p : Nat), l[k]? = some p → l[k + 1]? = some c → c ∈ ties.getD p []
theorem chain_ok {n : Nat} {A : Ahd} {lev : Nat → Nat} (h : Spr ties sh b n A lev) : ∀ (f e : Nat), hasA A e = true → lev e ≤ f → WayOk ties sh b e n (lev e) (chainG f A e).reverse := by
  intro f
  induction f with
  | zero =>
    intro e he hf
    obtain ⟨v, ev⟩ := Option.isSome_iff_exists.mp (show (lookA A e).isSome = true from he)
    have eb : e = b := by
      cases v with
      | none => exact h.no e ev
      | some p =>
        have := (h.up e p ev).2.1
        omega
    subst eb
    rw [h.b0]
    have hlt := h.wf.lt _ (List.mem_map.mp (hasA_iff.mp he)).choose_spec.1
    rw [(List.mem_map.mp (hasA_iff.mp he)).choose_spec.2] at hlt
    exact ⟨rfl, rfl, rfl, fun c hc => by rw [show (chainG 0 A e).reverse = [e] from rfl, List.mem_singleton] at hc; rw [hc]; exact hlt, fun k c hk => by simp [chainG] at hk, fun k c p _ hk => by simp [chainG] at hk⟩
  | succ f ih =>
    intro e he hf
    have hlt : e < n := by
      have hlt := h.wf.lt _ (List.mem_map.mp (hasA_iff.mp he)).choose_spec.1
      rwa [(List.mem_map.mp (hasA_iff.mp he)).choose_spec.2] at hlt
    obtain ⟨v, ev⟩ := Option.isSome_iff_exists.mp (show (lookA A e).isSome = true from he)
    cases v with
    | none =>
      have eb := h.no e ev
      subst eb
      rw [chainG_end ev, h.b0]
      exact ⟨rfl, rfl, rfl, fun c hc => by rw [show [e].reverse = [e] from rfl, List.mem_singleton] at hc; rw [hc]; exact hlt, fun k c hk => by simp at hk, fun k c p _ hk => by simp at hk⟩
    | some p =>
      have u := h.up e p ev
      have w := ih p u.1 (by omega)
      rw [chainG_more ev, List.reverse_cons, u.2.1]
      have wl := w.ln
      generalize (chainG f A p).reverse = l at w wl
      refine ⟨by rw [List.length_append, wl]; rfl, by rw [List.getElem?_append_left (by omega)]; exact w.h0, by rw [List.getElem?_append_right (by omega), wl, Nat.sub_self]; rfl, fun c hc => ?_, fun k c hk => ?_, fun k c q hq hk => ?_⟩
      · rcases List.mem_append.mp hc with hc | hc
        · exact w.lt c hc
        · rw [List.mem_singleton] at hc
          rw [hc]
          exact hlt
      · by_cases hk1 : k + 1 < l.length
        · rw [List.getElem?_append_left hk1] at hk
          exact w.sh k c hk
        · rw [List.getElem?_append_right (by omega)] at hk
          have : k + 1 - l.length = 0 := by
            cases hz : k + 1 - l.length with
            | zero => rfl
            | succ z => rw [hz] at hk; simp at hk
          rw [this] at hk
          simp at hk
          rw [← hk]
          exact u.2.2.2
      · by_cases hk1 : k + 1 < l.length
        · rw [List.getElem?_append_left hk1] at hk
          rw [List.getElem?_append_left (by omega)] at hq
          exact w.nx k c q hq hk
        · rw [List.getElem?_append_right (by omega)] at hk
          have : k + 1 - l.length = 0 := by
            cases hz : k + 1 - l.length with
            | zero => rfl
            | succ z => rw [hz] at hk; simp at hk
          rw [this] at hk
          simp at hk
          rw [← hk]
          have e1 : k = lev p := by omega
          rw [List.getElem?_append_left (by omega), e1, w.hl] at hq
          cases hq
          exact u.2.2.1
theorem wayF_ok {n : Nat} {A : Ahd} {lev : Nat → Nat} (h : Spr ties sh b n A lev) (e : Nat) : (wayF A e = none ∧ ∀ k, ¬ Rch ties sh b k e) ∨ ∃ l d, wayF A e = some l ∧ IsD ties sh b e d ∧ WayOk ties sh b e n d l := by
  unfold wayF
  cases he : hasA A e with
  | false =>
    refine .inl ⟨if_neg Bool.false_ne_true, fun k r => ?_⟩
    rw [h.of e k r] at he
    cases he
  | true => exact .inr ⟨_, _, if_pos rfl, h.to e he, chain_ok h _ e he (Nat.le_of_lt (h.lt e he))⟩
end
/-! ### the law's own waves -/
theorem flat_rep {α : Type} (n : Nat) (x : α) : (List.replicate n [x]).flatten = List.replicate n x := by
  induction n with
  | zero => rfl
  | succ n ih => rw [List.replicate_succ, List.flatten_cons, ih, List.replicate_succ]; rfl
theorem ixN_nat {n i : Nat} (h : i < n) : ixN n (i : Int) = some i := by
  unfold ixN
  rw [if_pos (by omega), if_pos (by omega), Int.toNat_natCast]
structure WvOk (ties : List (List Nat)) (sh : Nat → Bool) (b n : Nat) (fd : List (Option Nat)) : Prop where
  ln : fd.length = n
  at_ : ∀ c, c < n → ∀ d, fd.getD c none = some d ↔ IsD ties sh b c d
/-- found: all that are at most i steps away -/
structure WvAt (ties : List (List Nat)) (sh : Nat → Bool) (b n i : Nat) (fd : List (Option Nat)) : Prop where
  ln : fd.length = n
  at_ : ∀ c, c < n → ∀ d, fd.getD c none = some d ↔ IsD ties sh b c d ∧ d ≤ i
/-- amid wave i: the cells of L are done -/
structure WvIn (ties : List (List Nat)) (sh : Nat → Bool) (b n i : Nat) (L : List Nat) (fd : List (Option Nat)) : Prop where
  ln : fd.length = n
  so : ∀ c, c < n → ∀ d, fd.getD c none = some d → IsD ties sh b c d ∧ d ≤ i + 1
  le : ∀ c, c < n → ∀ d, IsD ties sh b c d → d ≤ i → fd.getD c none = some d
  dn : ∀ c ∈ L, ∀ o ∈ ties.getD c [], sh o = false → fd.getD o none ≠ none
section
variable {ties : List (List Nat)} {sh : Nat → Bool} {b n i : Nat}
theorem getD_set {fd : List (Option Nat)} {o c : Nat} {v : Option Nat} (h : o < fd.length) : (fd.set o v).getD c none = if c = o then v else fd.getD c none := by
  rw [List.getD_eq_getElem?_getD, List.getD_eq_getElem?_getD, List.getElem?_set]
  by_cases e : c = o
  · subst e
    rw [if_pos rfl, if_pos h, if_pos rfl]
    rfl
  · rw [if_neg (fun z => e z.symm), if_neg e]
theorem isD_zero : IsD ties sh b b 0 := ⟨.zero, fun _ _ => Nat.zero_le _⟩
theorem rch_zero {c : Nat} (h : Rch ties sh b 0 c) : c = b := by
  cases h
  rfl
theorem wv_zero (hb : b < n) : WvAt ties sh b n 0 ((List.replicate n none).set b (some 0)) := by
  refine ⟨by rw [List.length_set, List.length_replicate], fun c hc d => ?_⟩
  rw [getD_set (by rw [List.length_replicate]; exact hb)]
  by_cases e : c = b
  · subst e
    rw [if_pos rfl]
    constructor
    · intro h
      cases h
      exact ⟨isD_zero, Nat.le_refl _⟩
    · rintro ⟨h, h0⟩
      congr 1
      omega
  · rw [if_neg e]
    constructor
    · intro h
      rw [List.getD_eq_getElem?_getD, List.getElem?_replicate] at h
      split at h <;> cases h
    · rintro ⟨h, h0⟩
      have : d = 0 := by omega
      subst this
      exact absurd (rch_zero h.1) e
theorem wv_end {fd : List (Option Nat)} {A : Ahd} {lev : Nat → Nat} (w : WvAt ties sh b n n fd) (s : Spr ties sh b n A lev) : WvOk ties sh b n fd := by
  refine ⟨w.ln, fun c hc d => ⟨fun h => ((w.at_ c hc d).mp h).1, fun h => (w.at_ c hc d).mpr ⟨h, ?_⟩⟩⟩
  have ha := s.of c d h.1
  have e := h.uniq (s.to c ha)
  have := s.lt c ha
  have := s.wf.len
  omega
theorem wv_in {fd : List (Option Nat)} (w : WvAt ties sh b n i fd) : WvIn ties sh b n i [] fd :=
  ⟨w.ln, fun c hc d h => ⟨((w.at_ c hc d).mp h).1, by have := ((w.at_ c hc d).mp h).2; omega⟩, fun c hc d h hd => (w.at_ c hc d).mpr ⟨h, hd⟩, fun c hc => nomatch hc⟩
/-- the last step of a way -/
theorem rch_last {k c : Nat} (h : Rch ties sh b (k + 1) c) : ∃ p, Rch ties sh b k p ∧ c ∈ ties.getD p [] ∧ sh c = false := by
  cases h with
  | step h ho hs => exact ⟨_, h, ho, hs⟩
theorem wv_next {L : List Nat} {fd : List (Option Nat)} (w : WvIn ties sh b n i L fd) (hL : ∀ c, c < n → IsD ties sh b c i → c ∈ L) (ht : ∀ k c, Rch ties sh b k c → c < n) : WvAt ties sh b n (i + 1) fd := by
  refine ⟨w.ln, fun c hc d => ⟨w.so c hc d, fun ⟨h, hd⟩ => ?_⟩⟩
  by_cases hi : d ≤ i
  · exact w.le c hc d h hi
  · have : d = i + 1 := by omega
    subst this
    obtain ⟨p, rp, hp, hs⟩ := rch_last h.1
    have dp : IsD ties sh b p i := ⟨rp, fun k rk => by
      have := h.2 _ (.step rk hp hs)
      omega⟩
    have ne := w.dn p (hL p (ht _ _ rp) dp) c hp hs
    cases e : fd.getD c none with
    | none => exact absurd e ne
    | some x => rw [h.uniq (w.so c hc x e).1]
/-- one neighbour of a cell of the wave -/
theorem wv_see {L : List Nat} {fd : List (Option Nat)} {c o : Nat} (w : WvIn ties sh b n i L fd) (dc : IsD ties sh b c i) (ho : o ∈ ties.getD c []) (hs : sh o = false) (hn : fd.getD o none = none) (hl : o < n) : WvIn ties sh b n i L (fd.set o (some (i + 1))) := by
  have hlen : o < fd.length := by rw [w.ln]; exact hl
  have ro : Rch ties sh b (i + 1) o := .step dc.1 ho hs
  have dO : IsD ties sh b o (i + 1) := ⟨ro, fun k rk => by
    refine Nat.not_lt.mp fun z => ?_
    -- a shorter way would have been found
    have : ∃ d, IsD ties sh b o d ∧ d ≤ k := by
      have : ∀ m, (∃ k, k ≤ m ∧ Rch ties sh b k o) → ∃ d, IsD ties sh b o d ∧ d ≤ m := by
        intro m
        induction m with
        | zero =>
          rintro ⟨k, hk, r⟩
          have : k = 0 := by omega
          subst this
          exact ⟨0, ⟨r, fun _ _ => Nat.zero_le _⟩, Nat.le_refl _⟩
        | succ m ih =>
          rintro ⟨k, hk, r⟩
          by_cases h : ∃ k, k ≤ m ∧ Rch ties sh b k o
          · obtain ⟨d, a, b⟩ := ih h
            exact ⟨d, a, by omega⟩
          · have : k = m + 1 := by
              refine Classical.byContradiction fun z => h ⟨k, by omega, r⟩
            subst this
            exact ⟨m + 1, ⟨r, fun j rj => Nat.not_lt.mp fun z => h ⟨j, by omega, rj⟩⟩, Nat.le_refl _⟩
      exact this k ⟨k, Nat.le_refl _, rk⟩
    obtain ⟨d, hd, hdk⟩ := this
    have := w.le o hl d hd (by omega)
    rw [hn] at this
    cases this⟩
  refine ⟨by rw [List.length_set]; exact w.ln, fun x hx d h => ?_, fun x hx d h hd => ?_, fun x hx y hy hs => ?_⟩
  · rw [getD_set hlen] at h
    by_cases e : x = o
    · rw [if_pos e] at h
      cases h
      subst e
      exact ⟨dO, Nat.le_refl _⟩
    · rw [if_neg e] at h
      exact w.so x hx d h
  · rw [getD_set hlen]
    by_cases e : x = o
    · subst e
      have := h.uniq dO
      omega
    · rw [if_neg e]
      exact w.le x hx d h hd
  · rw [getD_set hlen]
    by_cases e : y = o
    · rw [if_pos e]
      exact fun z => nomatch z
    · rw [if_neg e]
      exact w.dn x hx y hy hs
theorem wv_done {L : List Nat} {fd : List (Option Nat)} {c : Nat} (w : WvIn ties sh b n i L fd) (h : ∀ o ∈ ties.getD c [], sh o = false → fd.getD o none ≠ none) : WvIn ties sh b n i (c :: L) fd :=
  ⟨w.ln, w.so, w.le, fun x hx => (List.mem_cons.mp hx).elim (fun e => by rw [e]; exact h) (w.dn x)⟩
end
/-! ### the least pair without a way -/
def barB (R : Rws) (r s : Nat) : Bool := !hasA (metF R ((ofF R 72).getD r 0) (othF R r)) ((ofF R 83).getD s 0)
def FBar (R : Rws) : Option (Nat × Nat) → Prop
  | none => ∀ r s, r < (ofF R 72).length → s < (ofF R 83).length → barB R r s = false
  | some p => p.1 < (ofF R 72).length ∧ p.2 < (ofF R 83).length ∧ barB R p.1 p.2 = true ∧ (∀ r s, r < p.1 → s < (ofF R 83).length → barB R r s = false) ∧ ∀ s, s < p.2 → barB R p.1 s = false
theorem FBar.uniq {R : Rws} {o o' : Option (Nat × Nat)} (h : FBar R o) (h' : FBar R o') : o = o' := by
  cases o with
  | none => cases o' with
    | none => rfl
    | some p =>
      have := h p.1 p.2 h'.1 h'.2.1
      rw [h'.2.2.1] at this
      cases this
  | some q => cases o' with
    | none =>
      have := h' q.1 q.2 h.1 h.2.1
      rw [h.2.2.1] at this
      cases this
    | some p =>
      obtain ⟨a1, a2, a3, a4, a5⟩ := h
      obtain ⟨b1, b2, b3, b4, b5⟩ := h'
      have e1 : q.1 = p.1 := by
        rcases Nat.lt_trichotomy q.1 p.1 with z | z | z
        · rw [b4 _ _ z a2] at a3; cases a3
        · exact z
        · rw [a4 _ _ z b2] at b3; cases b3
      have e2 : q.2 = p.2 := by
        rcases Nat.lt_trichotomy q.2 p.2 with z | z | z
        · rw [← e1] at b5; rw [b5 _ z] at a3; cases a3
        · exact z
        · rw [e1] at a5; rw [a5 _ z] at b3; cases b3
      rw [Prod.ext e1 e2]
theorem FBar.ex (R : Rws) : ∃ o, FBar R o := by
  by_cases h : ∃ r, ∃ s, r < (ofF R 72).length ∧ s < (ofF R 83).length ∧ barB R r s = true
  · have key : ∀ m, (∃ r, r ≤ m ∧ ∃ s, r < (ofF R 72).length ∧ s < (ofF R 83).length ∧ barB R r s = true) → ∃ o, FBar R o := by
      intro m
      induction m with
      | zero =>
        rintro ⟨r, hr, s, h1, h2, h3⟩
        have : r = 0 := by omega
        subst this
        have inner : ∀ k, (∃ s, s ≤ k ∧ s < (ofF R 83).length ∧ barB R 0 s = true) → ∃ s, s < (ofF R 83).length ∧ barB R 0 s = true ∧ ∀ t, t < s → barB R 0 t = false := by
          intro k
          induction k with
          | zero =>
            rintro ⟨s, hs, a, b⟩
            have : s = 0 := by omega
            subst this
            exact ⟨0, a, b, fun t h => absurd h (Nat.not_lt_zero _)⟩
          | succ k ih =>
            rintro ⟨s, hs, a, b⟩
            by_cases h : ∃ s, s ≤ k ∧ s < (ofF R 83).length ∧ barB R 0 s = true
            · exact ih h
            · refine ⟨s, a, b, fun t ht => ?_⟩
              cases e : barB R 0 t with
              | false => rfl
              | true => exact absurd ⟨t, by omega, by omega, e⟩ h
        obtain ⟨s, a, b, c⟩ := inner s ⟨s, Nat.le_refl _, h2, h3⟩
        exact ⟨some (0, s), h1, a, b, fun r t h => absurd h (Nat.not_lt_zero _), c⟩
      | succ m ih =>
        rintro ⟨r, hr, s, h1, h2, h3⟩
        by_cases h : ∃ r, r ≤ m ∧ ∃ s, r < (ofF R 72).length ∧ s < (ofF R 83).length ∧ barB R r s = true
        · exact ih h
        · have inner : ∀ k, (∃ s, s ≤ k ∧ s < (ofF R 83).length ∧ barB R r s = true) → ∃ s, s < (ofF R 83).length ∧ barB R r s = true ∧ ∀ t, t < s → barB R r t = false := by
            intro k
            induction k with
            | zero =>
              rintro ⟨s, hs, a, b⟩
              have : s = 0 := by omega
              subst this
              exact ⟨0, a, b, fun t h => absurd h (Nat.not_lt_zero _)⟩
            | succ k ih =>
              rintro ⟨s, hs, a, b⟩
              by_cases h : ∃ s, s ≤ k ∧ s < (ofF R 83).length ∧ barB R r s = true
              · exact ih h
              · refine ⟨s, a, b, fun t ht => ?_⟩
                cases e : barB R r t with
                | false => rfl
                | true => exact absurd ⟨t, by omega, by omega, e⟩ h
          obtain ⟨s, a, b, c⟩ := inner s ⟨s, Nat.le_refl _, h2, h3⟩
          refine ⟨some (r, s), h1, a, b, fun q t hq ht => ?_, c⟩
          cases e : barB R q t with
          | false => rfl
          | true => exact absurd ⟨q, by have : q < r := hq; omega, t, by have : q < r := hq; omega, ht, e⟩ h
    obtain ⟨r, s, h1, h2, h3⟩ := h
    exact key r ⟨r, Nat.le_refl _, s, h1, h2, h3⟩
  · refine ⟨none, fun r s h1 h2 => ?_⟩
    cases e : barB R r s with
    | false => rfl
    | true => exact absurd ⟨r, s, h1, h2, e⟩ h
/-- the waves tell what a spread tells -/
theorem wv_met {R : Rws} {b : Nat} {l : List Nat} {fd : List (Option Nat)} (hb : b < (spotsF R).length) (w : WvOk (tiesF (spotsF R)) (fun o => decide (o ∈ l)) b (spotsF R).length fd) {c : Nat} (hc : c < (spotsF R).length) : (fd.getD c none).isSome = hasA (metF R b l) c := by
  obtain ⟨lev, s⟩ := spreadF_spr (sh := fun o => decide (o ∈ l)) hb (ties_len (spotsF R)) fun c o => ties_lt
  rw [Bool.eq_iff_iff]
  constructor
  · intro h
    obtain ⟨d, e⟩ := Option.isSome_iff_exists.mp h
    exact s.of c d ((w.at_ c hc d).mp e).1
  · intro h
    rw [(w.at_ c hc (lev c)).mpr (s.to c h)]
    rfl
/-! ### comprehensions that change the store -/
theorem comp_inv {α : Type} {b : BW} {mt : MT} {me : ME} {σ : Env} {vs : List Nat} {gd : Store → Prop} {Q : List Dt → Store → Prop} (F : α → Dt) (J : Nat → List Dt → Store → Prop) : ∀ (xs : List α) (i : Nat) (acc : List Dt) (S : Store),
    (∀ j x, j < i + xs.length → x ∈ xs → ∀ acc S, J j acc S → gd S ∧ ∃ σ1, b (F x) (wipeW σ vs) = some σ1 ∧ ∀ N : List Dt → Store → Prop, (∀ acc' S', J (j + 1) acc' S' → N acc' S') → mt σ1 S (fun c S2 => br c (me σ1 S2 (fun y S3 => acc.length < sizeLine ∧ N (acc ++ [y]) S3) (fun _ _ => False)) (N acc S2)) (fun _ _ => False)) →
    J i acc S → (∀ acc S, J (i + xs.length) acc S → gd S ∧ Q acc S) → compW b mt me σ vs gd Q (xs.map F) acc S
  | [], i, acc, S, _, j, e => by
    rw [List.map_nil]
    unfold compW
    exact e acc S j
  | x :: xs, i, acc, S, h, j, e => by
    rw [List.map_cons]
    unfold compW
    obtain ⟨g, σ1, eb, hN⟩ := h i x (by rw [List.length_cons]; omega) List.mem_cons_self acc S j
    refine ⟨g, ?_⟩
    rw [eb]
    exact hN (fun acc' S' => compW b mt me σ vs gd Q (xs.map F) acc' S') fun acc' S' j' => comp_inv F J xs (i + 1) acc' S' (fun k y hk hy => h k y (by rw [List.length_cons]; omega) (List.mem_cons_of_mem _ hy)) j' (fun acc S k => e acc S (by rw [List.length_cons, show i + (xs.length + 1) = i + 1 + xs.length by omega]; exact k))
/-! ### lots that bar -/
theorem ascB_iff {l : List Nat} : ascB l = true ↔ ∀ k, k + 1 < l.length → l.getD k 0 < l.getD (k + 1) 0 := by
  unfold ascB
  rw [List.all_eq_true]
  constructor
  · intro h k hk
    have h1 : k < l.length := by omega
    have : (l[k], l[k + 1]) ∈ l.zip l.tail := by
      refine List.mem_of_getElem? (i := k) ?_
      rw [List.getElem?_zip_eq_some]
      exact ⟨List.getElem?_eq_getElem h1, by rw [List.getElem?_tail]; exact List.getElem?_eq_getElem hk⟩
    have := h _ this
    rw [decide_eq_true_iff] at this
    rw [getD_get h1, getD_get hk]
    exact this
  · rintro h ⟨a, b⟩ hp
    obtain ⟨k, ek⟩ := List.getElem?_of_mem hp
    rw [List.getElem?_zip_eq_some, List.getElem?_tail] at ek
    obtain ⟨e1, e2⟩ := ek
    obtain ⟨h1, e1⟩ := List.getElem?_eq_some_iff.mp e1
    obtain ⟨h2, e2⟩ := List.getElem?_eq_some_iff.mp e2
    have := h k h2
    rw [getD_get h1, getD_get h2, e1, e2] at this
    exact decide_eq_true this
theorem ascB_of {l : List Nat} (h : l.Pairwise (· < ·)) : ascB l = true := ascB_iff.mpr fun k hk => by
  rw [getD_get (by omega), getD_get hk]
  exact List.pairwise_iff_getElem.mp h k (k + 1) (by omega) hk (by omega)
theorem ofF_asc (R : Rws) (s : Nat) : (ofF R s).Pairwise (· < ·) := by
  unfold ofF
  rw [range_filter (0, 0) (spotsF R) (fun p => decide (signF R p = s))]
  exact List.pairwise_lt_range.filter _
theorem othF_asc (R : Rws) (r : Int) : (othF R r).Pairwise (· < ·) := by
  rw [othF_eq, List.pairwise_map]
  refine List.Pairwise.imp_of_mem ?_ ((List.pairwise_lt_range (n := (ofF R 72).length)).filter fun (k : Nat) => !decide ((k : Int) = r))
  intro a b ha hb hab
  have h1 := List.mem_range.mp (List.mem_filter.mp ha).1
  have h2 := List.mem_range.mp (List.mem_filter.mp hb).1
  rw [getD_get h1, getD_get h2]
  exact List.pairwise_iff_getElem.mp (ofF_asc R 72) a b h1 h2 hab
theorem adj_symm (p q : Nat × Nat) : adjP p q = adjP q p := by
  unfold adjP
  rw [Bool.eq_iff_iff, decide_eq_true_iff, decide_eq_true_iff]
  omega
theorem tie_symm {sp : List (Nat × Nat)} {c o : Nat} (h : o ∈ (tiesF sp).getD c []) : c ∈ (tiesF sp).getD o [] := by
  have ho := ties_lt h
  have hc : c < sp.length := by
    refine Nat.not_le.mp fun z => ?_
    rw [List.getD_eq_getElem?_getD, List.getElem?_eq_none (by rw [ties_len]; exact z)] at h
    cases h
  rw [tie_at hc] at h
  rw [tie_at ho]
  unfold tieF at h ⊢
  rw [List.mem_filter, List.mem_range] at h ⊢
  exact ⟨hc, by rw [adj_symm]; exact h.2⟩
theorem lotOf_lot {n : Nat} {l : List Nat} (h : ∀ c ∈ l, c < n) (ha : ascB l = true) : lotOf n (.tup (lotW l)) = some l := by
  rw [lotOf_eq, natsOf_lot h]
  dsimp only
  rw [ha]
  rfl
/-- what barring tells bars -/
theorem barF_bars {R : Rws} {r s : Nat} {l : List Nat} (hr : r < (ofF R 72).length) (h : barF R r s = some l) : isBarF R r s (.tup (lotW l)) = true ∧ (∀ c ∈ l, c ∈ othF R r) ∧ l.length ≤ (othF R r).length := by
  unfold barF at h
  split at h
  · cases h
  · rename_i hno
    injection h with h
    have hm : ∀ c ∈ l, c ∈ othF R r := fun c hc => by
      rw [← h] at hc
      exact (List.mem_filter.mp hc).1
    refine ⟨?_, hm, by rw [← h]; exact List.length_filter_le _ _⟩
    unfold isBarF
    rw [lotOf_lot (fun c hc => othF_lt (hm c hc)) (ascB_of (by rw [← h]; exact (othF_asc R r).filter _))]
    dsimp only
    rw [List.all_eq_true.mpr fun c hc => decide_eq_true (hm c hc), Bool.true_and, Bool.not_eq_true']
    have hrl := ofF_lt (getD_mem (d := 0) hr)
    obtain ⟨lev, s1⟩ := spreadF_spr (sh := fun o => decide (o ∈ l)) hrl (ties_len (spotsF R)) fun c o => ties_lt
    obtain ⟨lev2, s2⟩ := spreadF_spr (sh := fun o => decide (o ∈ othF R r)) hrl (ties_len (spotsF R)) fun c o => ties_lt
    have key : ∀ k c, Rch (tiesF (spotsF R)) (fun o => decide (o ∈ l)) ((ofF R 72).getD r 0) k c → Rch (tiesF (spotsF R)) (fun o => decide (o ∈ othF R r)) ((ofF R 72).getD r 0) k c := by
      intro k c hk
      induction hk with
      | zero => exact .zero
      | step hp ho hs ih =>
        rename_i k p o
        refine .step ih ho ?_
        have hs : decide (o ∈ l) = false := hs
        rw [decide_eq_false_iff_not] at hs
        show decide (o ∈ othF R r) = false
        rw [decide_eq_false_iff_not]
        intro hoth
        apply hs
        rw [← h, List.mem_filter]
        refine ⟨hoth, ?_⟩
        rw [List.any_eq_true]
        have := tie_symm ho
        rw [tie_at (ties_lt ho)] at this
        exact ⟨p, this, s2.of p k ih⟩
    cases e : hasA (metF R ((ofF R 72).getD r 0) l) ((ofF R 83).getD s 0) with
    | false => rfl
    | true =>
      exfalso
      apply hno
      exact s2.of _ _ (key _ _ (s1.to _ e).1)
/-- the law's own look at a lot -/
def okAt (xs : List Dt) (k : Nat) : Bool := match xs.getD k .non with
  | .int i => if k = 0 then true else match xs.getD (k - 1) .non with
    | .int j => decide (j < i)
    | _ => false
  | _ => false
def isAsc : Dt → Bool
  | .tup xs => (List.range xs.length).all (okAt xs)
  | _ => false
theorem asc_int {xs : List Dt} {k : Nat} (h : okAt xs k = true) : ∃ i : Int, xs.getD k .non = .int i := by
  unfold okAt at h
  split at h
  · rename_i i e
    exact ⟨i, e⟩
  · cases h
theorem asc_ints {xs : List Dt} (h : (List.range xs.length).all (okAt xs) = true) : ∃ zs : List Int, xs = zs.map Dt.int := by
  rw [List.all_eq_true] at h
  refine ⟨xs.map fun w => match w with | .int i => i | _ => 0, ?_⟩
  rw [List.map_map]
  conv => lhs; rw [← List.map_id xs]
  refine List.map_congr_left fun w hw => ?_
  obtain ⟨k, hk, e⟩ := List.mem_iff_getElem.mp hw
  obtain ⟨i, ei⟩ := asc_int (h k (List.mem_range.mpr hk))
  rw [getD_get hk, e] at ei
  subst ei
  rfl
theorem asc_lot (l : List Nat) : isAsc (.tup (lotW l)) = ascB l := by
  show (List.range (lotW l).length).all (okAt (lotW l)) = ascB l
  have at_ : ∀ k, k < l.length → (lotW l).getD k .non = .int (l.getD k 0 : Nat) := fun k hk => by
    rw [getD_get (by rw [lotW_len]; exact hk), getD_get hk]
    unfold lotW
    rw [List.getElem_map]
  rw [Bool.eq_iff_iff, ascB_iff, List.all_eq_true, lotW_len]
  constructor
  · intro h k hk
    have := h (k + 1) (List.mem_range.mpr hk)
    unfold okAt at this
    rw [at_ _ hk] at this
    dsimp only at this
    rw [if_neg (by omega), Nat.add_sub_cancel, at_ k (by omega)] at this
    dsimp only at this
    rw [decide_eq_true_iff] at this
    omega
  · intro h k hk
    rw [List.mem_range] at hk
    unfold okAt
    rw [at_ _ hk]
    dsimp only
    by_cases k0 : k = 0
    · rw [if_pos k0]
    · rw [if_neg k0, at_ (k - 1) (by omega)]
      dsimp only
      rw [decide_eq_true_iff]
      have := h (k - 1) (by omega)
      rw [show k - 1 + 1 = k by omega] at this
      omega
/-- ints that are all among numbers -/
theorem ints_nats {zs : List Int} {l : List Nat} (h : ∀ z ∈ zs, ∃ c ∈ l, z = ((c : Nat) : Int)) : ∃ m : List Nat, zs.map Dt.int = lotW m ∧ ∀ c ∈ m, c ∈ l := by
  induction zs with
  | nil => exact ⟨[], rfl, fun c h => nomatch h⟩
  | cons z zs ih =>
    obtain ⟨m, e, hm⟩ := ih fun y hy => h y (List.mem_cons_of_mem _ hy)
    obtain ⟨c, hc, ez⟩ := h z List.mem_cons_self
    refine ⟨c :: m, by rw [List.map_cons, e, ez]; rfl, fun x hx => ?_⟩
    rcases List.mem_cons.mp hx with rfl | hx
    · exact hc
    · exact hm x hx
theorem isBarF_tup {R : Rws} {r s : Nat} {w : Dt} (h : isAsc w = false) : isBarF R r s w = false := by
  unfold isBarF
  cases e : lotOf (spotsF R).length w with
  | none => rfl
  | some l =>
    obtain ⟨rfl, hl⟩ := lotOf_some e
    rw [asc_lot] at h
    rw [lotOf_eq, natsOf_lot hl] at e
    dsimp only at e
    rw [h] at e
    cases e
theorem isBarF_out {R : Rws} {r s : Nat} {zs : List Int} (h : ∃ z ∈ zs, ¬ ∃ c ∈ othF R r, z = ((c : Nat) : Int)) : isBarF R r s (.tup (zs.map Dt.int)) = false := by
  unfold isBarF
  cases e : lotOf (spotsF R).length (.tup (zs.map Dt.int)) with
  | none => rfl
  | some l =>
    obtain ⟨e2, hl⟩ := lotOf_some e
    dsimp only
    obtain ⟨z, hz, hno⟩ := h
    have : l.all (fun c => decide (c ∈ othF R r)) = false := by
      rw [List.all_eq_false]
      injection e2 with e2
      have : Dt.int z ∈ lotW l := by
        rw [← e2]
        exact List.mem_map_of_mem hz
      unfold lotW at this
      obtain ⟨c, hc, ec⟩ := List.mem_map.mp this
      injection ec with ec
      refine ⟨c, hc, ?_⟩
      rw [decide_eq_true_iff]
      exact fun hm => hno ⟨c, hm, ec.symm⟩
    rw [this]
    rfl
theorem pl_lst_ints (zs : List Int) : pl (.lst (zs.map Dt.int)) = true := by
  unfold pl
  refine plL_of fun w h => ?_
  obtain ⟨i, _, rfl⟩ := List.mem_map.mp h
  rfl
theorem eqD_rows (R R' : Rws) : eqD (.tup (R.map rowS)) (.tup (R'.map rowS)) = decide (R = R') := by
  have key : ∀ R R' : Rws, eqDL (R.map rowS) (R'.map rowS) = decide (R = R') := by
    intro R
    induction R with
    | nil => intro R'; cases R' with
      | nil => rfl
      | cons r R' => rfl
    | cons r R ih => intro R'; cases R' with
      | nil => rfl
      | cons r' R' =>
        show (eqD (rowS r) (rowS r') && eqDL (R.map rowS) (R'.map rowS)) = _
        rw [ih, Bool.eq_iff_iff, Bool.and_eq_true, decide_eq_true_iff, decide_eq_true_iff, List.cons.injEq]
        have : eqD (rowS r) (rowS r') = decide ((⟨r.toArray⟩ : Str) = ⟨r'.toArray⟩) := rfl
        rw [this, decide_eq_true_iff]
        constructor
        · rintro ⟨a, b⟩
          exact ⟨rowS_inj (by unfold rowS; rw [a]), b⟩
        · rintro ⟨a, b⟩
          exact ⟨by rw [a], b⟩
  exact key R R'
theorem rows_fl {R : Rws} (h : GoodF R) : fl 60 (.tup (R.map rowS)) = true := by
  show (R.map rowS).all (fl 59) = true
  rw [List.all_eq_true]
  intro w hw
  obtain ⟨r, hr, rfl⟩ := List.mem_map.mp hw
  have h1 := h.wl r hr
  have h2 := h.w2
  have h3 := h.sg r hr
  show (r.toArray.all fun c => decide (c < 0x110000)) = true
  rw [Array.all_eq_true]
  intro i hi
  have hc : r.toArray[i] ∈ r := by
    rw [List.getElem_toArray]
    exact List.getElem_mem _
  have := h3 _ hc
  unfold isSg at this
  simp only [Bool.or_eq_true, beq_iff_eq] at this
  rw [decide_eq_true_iff]
  omega
theorem cutW_map {α β : Type} (f : α → β) (xs : List α) (lo hi : Option Int) : cutW (xs.map f) lo hi = (cutW xs lo hi).map f := by
  unfold cutW
  rw [List.length_map, List.map_take, List.map_drop]
theorem cutW_le {α : Type} (xs : List α) (lo hi : Option Int) : (cutW xs lo hi).length ≤ xs.length := by
  unfold cutW
  rw [List.length_take, List.length_drop]
  omega
end Dn

/-! own classes: isinstance, == -/
namespace Dn
open PySem PySem.Spec PyProof.Rows L2
section
variable {X : Cx} {E : WX}
/-- a class by its name -/
theorem je_gcls {x : Str} {C : Addr} {pos : Pos} (hg : Gl X x) (hm : X.mg x = some (.ref C)) (hd : (x == ("__debug__" : Str)) = false := by decide) : JE X E (.Name x pos) (mC (.ref C)) :=
  je_c (pe_glob (v := .ref C) hg hm rfl hd) fun P S H => rpRef
end
def tyNs : List String := ["NoneType", "bool", "int", "str", "tuple", "list", "dict"]
/-- what isinstance(_, C0) says of the built-in types, and of the classes of os -/
structure IsiC (K : Frg) (C0 : Addr) (os : List (Addr × Bool)) : Prop where
  ty : ∀ t ∈ tyNs, PySem.W.kitOne K (.type t) (.ref C0) = some false
  own : ∀ p ∈ os, Cls K p.1 ∧ PySem.W.findIn K (.ref p.1) "__class__" = some (some (.builtin "object.__class__")) ∧ PySem.W.specialIn K (.builtin "object.__class__") "__get__" = some (some (.builtin "getset_descriptor.__get__")) ∧
    PySem.W.takesIn K (.builtin "object.__class__") = some true ∧ PySem.W.mroIn K p.1 (.type "object") = some true ∧ PySem.W.kitOne K (.ref p.1) (.ref C0) = some p.2
/-- the class of an instance -/
def insOf (S : Store) : Dt → Option Addr
  | .ins C _ _ => some C
  | .ref a => match S a with
    | some (.ins C _ _) => some C
    | _ => none
  | _ => none
def pyIsiO (C0 : Addr) (os : List (Addr × Bool)) : OpN
  | [x, .ref C], S, Q => C = C0 ∧ match tyN S x with
    | some t => t ∈ tyNs ∧ Q (.bl false) S
    | none => match insOf S x with
      | some C1 => ∃ b, (C1, b) ∈ os ∧ Q (.bl b) S
      | none => False
  | _, _, _ => False
theorem insOf_of {K : Frg} {P : Hid} {S : Store} {H : Hp} (W : Wd K P S H) {w : Dt} {v : V} {C : Addr} (r : Rp K P S H w v) (h : insOf S w = some C) : ∃ a dx fs, v = .ref a ∧ H a = some (.ins C dx fs) := by
  cases w with
  | ins C1 ns ws =>
    cases h
    unfold Rp at r
    obtain ⟨a, dx, xs, rfl, fz, hz, rl⟩ := r
    exact ⟨a, dx, _, rfl, fz.1⟩
  | ref a =>
    rw [rp_ref] at r
    unfold insOf at h
    dsimp only at h
    split at h
    · rename_i C1 ns ws ea
      cases h
      obtain ⟨dx, xs, eh, hz, rl⟩ := W.sim a _ ea
      exact ⟨a, dx, _, r, eh⟩
    · cases h
  | _ => cases h
section
variable {X : Cx} {E : WX}
theorem c_isiO {C0 : Addr} {os : List (Addr × Bool)} (T : IsiC X.K C0 os) : CallR X (.builtin "isinstance") (rdN X.K (pyIsiO C0 os)) := by
  intro pins s σ H vs us Qv I rv h
  obtain ⟨P, S, ws, Q, W, r, g, nq⟩ := h
  unfold pyIsiO at g
  split at g
  · rename_i x C
    obtain ⟨v, u, rfl, r1, r2⟩ := r.two
    rw [rp_ref] at r2
    subst r2
    obtain ⟨rfl, g⟩ := g
    split at g
    · rename_i t et
      exact call_isi pins s σ H _ us Qv I rv ⟨v, _, _, _, false, rfl, .own _, tyN_of W r1 et, T.ty t g.1, nq.now W rpBl g.2⟩
    · split at g
      · rename_i C1 ei
        obtain ⟨b, hb, g⟩ := g
        obtain ⟨a, dx, fs, rfl, eh⟩ := insOf_of W r1 ei
        obtain ⟨c1, c2, c3, c4, c5, c6⟩ := T.own _ hb
        exact call_isi pins s σ H _ us Qv I rv ⟨_, _, _, _, b, rfl, .own _, .base (.ins eh c1 c2 c3 c4 c5), c6, nq.now W rpBl g⟩
      · exact g.elim
  · exact g.elim
/-- what stands behind an own == : built-in types, and the class itself -/
def EqC (K : Frg) (C0 : Addr) : Prop := ∀ t ∈ tyNs, PySem.W.notFirst K C0 (.type t) = true
def pyEqO (C0 : Addr) (ns0 : List Str) (G : Fw) : Op2 := fun w z S Q => isIns C0 ns0 w S (((∃ t, tyN S z = some t ∧ t ∈ tyNs) ∨ insOf S z = some C0) ∧ G [w, z] S (fun v S1 => match v with | .bl b => Q (.bl b) S1 | _ => False) (fun _ _ => False))
theorem o_eqO {C0 : Addr} {ns0 : List Str} {k : Nat} {ps : List Str} {G : Fw} (c : CalM X.prog X.w X.K X.mg X.base C0 "__eq__" k ps 2 G) (T : EqC X.K C0) (hr : Room k X.A) : OpR X (compareOp .Eq) (rd2 X.K (pyEqO C0 ns0 G)) := by
  intro pins s σ H x y v u Qv I rx ry q
  obtain ⟨P, S, w, z, Q, W, r1, r2, g, nq⟩ := q
  obtain ⟨f, fd, cl, hm, hb, F⟩ := c
  unfold pyEqO at g
  obtain ⟨⟨a, dx, xs, rfl, ea⟩, hz, g⟩ := isIns_of W r1 g
  cases (show v = Value.ref a from rx)
  obtain ⟨mA, J, _⟩ := ins_get I.hok ea
  obtain ⟨od, J, _⟩ := J.look
  obtain ⟨m, hF⟩ := I.fr
  have hty : ∃ tb, PySem.W.notFirst X.K C0 tb = true ∧ PySem.W.Looks (model X.prog X.w) s.heap (typeOf u) tb := by
    rcases hz with ⟨t, et, ht⟩ | ei
    · obtain ⟨P', Z, p, _⟩ := kit_of I ry (tyN_of W r2 et)
      exact ⟨_, T t ht, Z.ty _ _ I.kIn p⟩
    · obtain ⟨b, dy, gs, rfl, eb⟩ := insOf_of W r2 ei
      cases (show u = Value.ref b from ry)
      obtain ⟨mB, J', _⟩ := ins_get I.hok eb
      obtain ⟨od', J', _⟩ := J'.look
      exact ⟨_, by simp [PySem.W.notFirst], J'.type⟩
  obtain ⟨tb, hn, hl⟩ := hty
  show wpAny (model X.prog X.w) X.A (richCompare .Eq (.ref a) u) (EP X pins σ Qv) X.xe s
  refine PySem.W.cmp_K (op := .Eq) hr.units0 hF I.ok.mod.kin J hl hn hm.at_ hm.fn ?_
  have hsp : spOf X.K 2 G [.ref a, y] H (fun v H' => ∃ b, v = .bl b ∧ Qv v H') (fun _ _ _ => False) := by
    refine ⟨rfl, P, S, [w, z], _, _, W, .cons r1 (.cons r2 .nil), g, fun v' H' w' S' W' r' e' q => ?_, fun _ _ _ _ _ _ _ _ h => h⟩
    dsimp only at q
    split at q
    · rename_i b
      rw [rp_bl] at r'
      exact ⟨b, r', by rw [r']; exact nq (.bl b) H' (.bl b) S' W' rpBl e' q⟩
    · exact q.elim
  refine wpAny_mono (run_fnSD (us := [.ref a, u]) (vs := [.ref a, y]) (E := fun _ _ _ _ => False) F hr hb .nil (fun _ _ _ _ _ _ h => (cx_none h).elim) I (.cons rx (.cons ry .nil)) hsp) (fun r s' hq => ?_) fun _ _ h => h
  obtain ⟨v', H', I', rv', b, rfl, hq⟩ := hq
  cases (show r = Value.bool b from rv')
  exact ⟨.bl b, H', I', rfl, hq⟩
end
end Dn

/-! Dn: an exception out of a comprehension's element; statements that are never come to. -/
namespace Dn
open PySem PySem.Spec PyProof.Rows L2
/-! ### never come to -/
def mDead : MS := fun _ _ _ => False
def mDeadE : ME := fun _ _ _ _ => False
theorem js_dead {X : Cx} {E : WX} {st : Stmt} : JS X E st mDead := ⟨fun _ _ _ _ _ _ ⟨_, _, _, _, _, _, h, _⟩ => h.elim⟩
theorem je_dead {X : Cx} {E : WX} {e : Expr} : JE X E e mDeadE := ⟨fun _ _ _ _ _ _ ⟨_, _, _, _, _, _, _, h, _⟩ => h.elim⟩
/-! ### out of a block -/
abbrev blkX (X : Cx) (s : Shared) (H : Hp) (scope : Scope) (ce : PySem.Env) (fp : List Addr) (xb : Value → Shared → Prop) : Cx := (X.blk s H scope ce fp).tr [] xb
theorem raw_ne {a b : Addr} (h : a ≠ b) : (rawInt a == rawInt b) = false := by
  unfold rawInt
  simp
  exact fun z => h (Int.ofNat_inj.mp z)
theorem frames_less {B B' h : Heap} (k : ∀ b, B.get? b = none → B'.get? b = none) : ∀ {l : List PySem.Env}, h.FunFrames B l → h.FunFrames B' l
  | [], _ => trivial
  | _ :: _, ⟨a, ⟨L, o, e1, e2, e3, e4⟩, r⟩ => ⟨a, ⟨L, o, e1, k _ e2, e3, e4⟩, frames_less k r⟩
/-- held by another frame's hand: noted, as one that flies -/
theorem look_other {M : Model} {A : Around} {E : Value → Shared → Prop} {s : Shared} {env : PySem.Env} {outer : List PySem.Env} {base : Heap} {e L C : Addr} {Z : Obj → Prop} {Q : Unit → Shared → Prop} (hZ : HandSPX.Steady Z) (hfr : A.frames = some (env :: outer)) (hf : env.frame = some L) (hne : C ≠ L) (hh : HandSPX.HeldZ base (env :: outer) e Z C s.heap)
    (hQ : ∀ h', HandSPX.HeldZ base (env :: outer) e Z L h' → s.heap.UpToSlots h' → Q () { s with heap := h' }) : wpAny M A (noteFrame (.ref e) env) Q E s := by
  obtain ⟨b1, b2, b3, oe, vs, T, oT, ts, he, hz, hd, h1, hnT, hTe, hT, hdT, h3⟩ := hh
  have o1 : ∀ b, b ≠ T → (s.heap.update T (Obj.mapFields (·.setIfInBounds 3 Value.none))).get? b = s.heap.get? b := fun b z => Heap.get?_update_other _ _ (Ne.symm z)
  have o2 : ∀ b o, s.heap.get? b = some o → (∀ us, o.data ≠ .fields us) → b ≠ T := fun b o q1 q2 z => by
    rw [z, hT] at q1
    cases q1
    exact q2 ts hdT
  unfold noteFrame
  simp only [hf]
  refine wpAny_bind (wpAny_field he hd h1 ?_)
  rw [if_pos (by simp : (Value.ref T != Value.none) = true)]
  refine wpAny_bind (wpAny_field hT hdT h3 ?_)
  rw [if_neg (by rw [raw_ne hne]; decide)]
  refine wpAny_bind (wpAny_setField hT hdT (Array.getElem?_eq_some_iff.mp h3).1 ?_)
  refine HandSPX.wpAny_entryZ (s := { s with heap := s.heap.update T (Obj.mapFields (·.setIfInBounds 3 Value.none)) }) hZ hfr (b3.of_keeps fun b o q1 q2 => ⟨o, (o1 b (o2 b o q1 q2)).trans q1, rfl⟩) hf ((o1 e (Ne.symm hTe)).trans he)
    (fun b o q => (o1 b fun z => by rw [z, hnT] at q; cases q).trans (b1 b o q)) b2 hd (Array.getElem?_eq_some_iff.mp h1).1 hz fun h' hN => ?_
  obtain ⟨x1, x2, x3, x4⟩ := hN
  refine hQ h' ⟨x1, b2, x2, x3⟩ fun b o q1 q2 => ?_
  exact x4 b o ((o1 b (o2 b o q1 q2)).trans q1) q2
section
variable {X : Cx} {W : WX} {pins : List (Addr × Obj)} {σ : L2.St} {H : Hp} {s : Shared}
theorem takes_blk {scope : Scope} {ce : PySem.Env} {fp : List Addr} {xb : Value → Shared → Prop} {F : Value → Shared → Prop} (hst : X.stack = X.env :: X.outer) (hfm : X.env.frame = some X.env.locals) (tk : Takes X W) (I3 : L2.Inv X pins σ H s) (f3 : ∀ b ∈ fp, FpOk X pins H b ∧ b < s.heap.objs.size)
    (cL : ce.locals = s.heap.objs.size) (cF : ce.frame = X.env.frame) (hF : ∀ u s', CompFails (model X.prog X.w) X.A X.xe ce u s' → F u s') (hxb : xb = notedBy (model X.prog X.w) X.A ce F) :
    Takes (blkX X s H scope ce fp xb) (fun c d _ H' => W c d σ H') := by
  rintro u s' ⟨a, B, sI, pins', σ', H', cls, d, rfl, I, nb, up, sky, na, os, ag, w⟩
  have hA : X.A.frames = some (X.env :: X.outer) := by rw [I3.ok.frames, hst]
  rw [show (blkX X s H scope ce fp xb).xe = xb from rfl, hxb]
  show wpAny _ X.A (noteFrame (.ref a) ce) _ _ s'
  rw [noteFrame_env _ cF]
  have sky : Sky B (X.env :: X.outer) a (Zc cls d) ce.locals s'.heap := hst ▸ sky
  have nb : ∀ b o, sI.heap.get? b = some o → b ∉ frs X.stack → B.get? b = some o := nb
  obtain ⟨m, hn, _⟩ := I.loc
  have hn : sI.heap.Ns ce.locals m := hn
  have hneL : ce.locals ≠ X.env.locals := by
    obtain ⟨m2, hn2, _⟩ := I3.loc
    rw [cL]
    exact fun z => absurd hn2.lt (by rw [← z]; exact Nat.lt_irrefl _)
  have fin : ∀ h1, HandSPX.HeldZ B (X.env :: X.outer) a (Zc cls d) X.env.locals h1 → s'.heap.UpToSlots h1 → F (.ref a) { s' with heap := h1 } := by
    intro h1 hh up1
    have upA := up.trans up1
    have hn1 : h1.Ns ce.locals m := Heap.Ns.upToSlots hn upA
    refine hF _ _ ⟨m, hn1, fun h2 m2 hn2 sb => ?_⟩
    obtain ⟨k1, k2, k3, oe, vs, T, oT, ts, he, hz, hd, hv1, hnT, hTe, hT, hdT, hv3⟩ := hh
    have nrec : ∀ {b : Addr} {o : Obj} {us : Array Value}, h1.get? b = some o → o.data = .fields us → b ≠ ce.locals := fun {b o us} q1 q2 z => by
      obtain ⟨oc, es, ep, c1, c2, _⟩ := hn1
      rw [z, c1] at q1
      cases q1
      rw [c2] at q2
      cases q2
    have less : ∀ b o, (PySem.W.hideAll B [ce.locals]).get? b = some o → B.get? b = some o ∧ b ≠ ce.locals := fun b o q => ⟨PySem.W.of_hideAll _ q, fun z => by
      rw [PySem.W.hideAll_none [ce.locals] (show b ∈ [ce.locals] by rw [z]; exact List.mem_singleton.mpr rfl)] at q
      cases q⟩
    have lessN : ∀ b, B.get? b = none → (PySem.W.hideAll B [ce.locals]).get? b = none := fun b q => by
      cases q2 : (PySem.W.hideAll B [ce.locals]).get? b with
      | none => rfl
      | some o =>
        rw [(less b o q2).1] at q
        cases q
    have lessG : ∀ b o, B.get? b = some o → b ≠ ce.locals → (PySem.W.hideAll B [ce.locals]).get? b = some o := fun b o q z => PySem.W.hideAll_get _ q (by rw [List.mem_singleton]; exact z)
    generalize PySem.W.hideAll B [ce.locals] = B' at less lessN lessG
    have g1 : B'.StaysIn h2 := fun b o q => (sb.2 b (less b o q).2).trans (k1 b o (less b o q).1)
    have g3 : h2.FunFrames B' (X.env :: X.outer) := Heap.FunFrames.sameBut sb hn2 (frames_less lessN k3)
    have e2 : h2.get? a = some oe := (sb.2 a (nrec he hd)).trans he
    have T2 : h2.get? T = some oT := (sb.2 T (nrec hT hdT)).trans hT
    unfold PySem.passOn
    refine wpAny_bind (wpAny_field e2 hd hv1 ?_)
    rw [if_neg (by simp : ¬ ((Value.ref T == Value.none) = true)), cF, hfm]
    refine wpAny_bind (HandSPX.setFlight_anyZ g1 g3 ⟨oe, vs, T, oT, ts, e2, hz, hd, hv1, lessN _ hnT, hTe, T2, hdT, hv3⟩ fun h3 j1 j2 j3 j4 => ?_)
    refine wpAny_throw (tk _ _ ?_)
    have I7 : L2.Inv X pins σ H' sI := I3.call' (ch := fp) I.os I.base I.hok I.bare fun b hb => ⟨(f3 b hb).1.2.2.2.1, (f3 b hb).1.2.1, (f3 b hb).1.2.2.2.2.1, (f3 b hb).1.2.2.2.2.2⟩
    have nC : H' ce.locals = none := I.free
    rw [cL] at nC
    obtain ⟨q0, q1, q2, q3, q4, q5⟩ := I3.fpOk (Nat.le_refl _) nC
    have gg : ∀ b o, (PySem.W.hideAll sI.heap [ce.locals]).get? b = some o → sI.heap.get? b = some o ∧ b ≠ ce.locals := fun b o q => ⟨PySem.W.of_hideAll _ q, fun z => by
      rw [PySem.W.hideAll_none [ce.locals] (show b ∈ [ce.locals] by rw [z]; exact List.mem_singleton.mpr rfl)] at q
      cases q⟩
    have ge : ∀ b o, b ≠ ce.locals → sI.heap.get? b = some o → (PySem.W.hideAll sI.heap [ce.locals]).get? b = some o := fun b o z q => PySem.W.hideAll_get _ q (by rw [List.mem_singleton]; exact z)
    refine ⟨a, B', { sI with heap := PySem.W.hideAll sI.heap [ce.locals] }, pins, σ, H', cls, d, rfl, I7.turned (t' := sI.toks) (fun b o z q => ge b o (by rw [cL]; exact z) q) q0 q1 q3 q4 q5, fun b o q z => ?_, ?_, .inr (.inr (hst ▸ ⟨j1, lessN _ k2, j2, j3⟩)), na, os, ag, w⟩
    · exact lessG b o (nb b o (gg b o q).1 z) (gg b o q).2
    · intro b o q hnf
      obtain ⟨sl, e⟩ := upA b o (gg b o q).1 hnf
      obtain ⟨sl2, e3⟩ := j4 b { o with slots := sl } ((sb.2 b (gg b o q).2).trans e) hnf
      exact ⟨sl2, e3⟩
  rcases sky with ⟨s1, s2, s3, oe, vs, he, hz, hd, hv⟩ | fl | hh
  · exact HandSPX.look_newZ Zc.steady hA s3 hfm he s1 s2 hd hv hz fin
  · exact HandSPX.looks_onZ Zc.steady hA hfm fl fin
  · exact look_other Zc.steady hA hfm hneL hh fin
end
/-- [elt for target in iter if ..], the element may raise -/
def tLcX (wi : TI) (g : TG) (tt : TT) (te : XK → TE) (vs : List Nat) (W : WX) : TE := fun σ H Q => wi σ H fun J H1 => ∀ D, H1 D = none → ∃ V : Nat → Nat → Hp → Prop, (∃ m, V 0 m (upd H1 D (.lst []))) ∧ ∀ i m H2, V i m H2 →
  (J.stop i H2 ∧ Q (.ref D) H2) ∨ (J.go i H2 ∧ ∃ Nx : Hp → Prop, (∀ H3, Nx H3 → ∃ k, k < m ∧ V (i + 1) k H3) ∧ ∀ x H3, J.yld i H2 x H3 → g x (wipe σ vs) H3 fun τ H4 => wipe τ vs = wipe σ vs ∧ tt τ H4 fun b H5 =>
    if b = true then te (fun c d H6 => W c d σ H6) τ H5 fun y H6 => ∃ acc, H6 D = some (.lst acc) ∧ acc.length < sizeLine ∧ Nx (upd H6 D (.lst (acc ++ [y]))) else Nx H5)
section
variable {X : Cx} {W : WX}
theorem lcX_core {pins : List (Addr × Obj)} {s : Shared} {σ : L2.St} {H : Hp} {Q : VK} {elt tg iter : Expr} {ifs : List Expr} {scope : Scope} {own : List (Str × Nat)} {pos p2 : Pos} {wi : TI} {g : TG} {tt : TT} {te : XK → TE} {Qf : Value → Shared → Prop}
    (hst : X.stack = X.env :: X.outer) (hfm : X.env.frame = some X.env.locals) (tk : Takes X W) (hc : X.calm = true) (hN : X.N.Nodup) (I : L2.Inv X pins σ H s) (hi : PI X tg iter wi) (ok : BlkOk X.N X.env.scope scope own)
    (hg : ∀ (s : Shared) (H : Hp) (C : Addr) (cl : List (Str × Addr)) (fp : List Addr) (xb : Value → Shared → Prop), PG (blkX X s H scope (compEnvC scope cl C X.env) fp xb) tg g)
    (ht : ∀ (s : Shared) (H : Hp) (C : Addr) (cl : List (Str × Addr)) (fp : List Addr) (xb : Value → Shared → Prop), PTs (blkX X s H scope (compEnvC scope cl C X.env) fp xb) ifs tt)
    (he : ∀ (s : Shared) (H : Hp) (C : Addr) (cl : List (Str × Addr)) (fp : List Addr) (xb : Value → Shared → Prop) (Eo : XK), Takes (blkX X s H scope (compEnvC scope cl C X.env) fp xb) (fun c d _ H' => Eo c d H') → PE (blkX X s H scope (compEnvC scope cl C X.env) fp xb) elt (te Eo))
    (hs : ∀ x, foldedSetIterable iter X.env x = pure x)
    (h : tLcX wi g tt te (own.map (·.2)) W σ H Q)
    (fin : ∀ D C s' m H', L2.Inv X pins σ H' s' → Q (.ref D) H' → s'.heap.Ns C m → FpOk X pins H' C → ∀ h', Heap.SameBut C s'.heap h' → Qf (.ref D) { s' with heap := h' }) :
    wpAny (model X.prog X.w) X.A (comprehension (.ListComp elt [⟨tg, iter, ifs, 0⟩] scope pos) scope X.env p2 (newList []) false (eval iter X.env) none) Qf X.xe s := by
  have free : ∀ y ∈ scope.names, y.2 = .free → ∃ c, X.env.cells.lookup y.1 = some c := fun y hy e => (ok.free y hy e).elim (fun k => I.ok.has _ (.inl k)) (fun k => I.ok.has _ (.inr k))
  refine comprehension_at (use := none) rfl hs (closure_ok free) ok.kind (fun y hy e => by rw [ok.uniq y hy, e]) (thn (hi.run pins s σ H _ I h) fun xv s1 hx => thn hx fun itv s2 h2 => ?_)
  obtain ⟨it, fp, tn, J, H2, rfl, I2, T, st2, f2, q⟩ := h2
  refine wpAny_newObj_type (newEnv_comp ?_) (by show 0 ≤ sizeLine; decide)
  generalize hD : s2.heap.objs.size = D
  obtain ⟨V, ⟨m0, w0⟩, turn⟩ := q D (I2.hok.fresh (Nat.le_of_eq hD))
  generalize hs3 : ({ s2 with heap := s2.heap.push { cls := .type "list", data := .seq ([] : List Value).toArray } } : Shared) = s3
  have h3 : s3.heap = s2.heap.push { cls := .type "list", data := .seq ([] : List Value).toArray } := by rw [← hs3]
  have I3 : L2.Inv X pins σ (upd H2 D (.lst [])) s3 := by
    rw [← hs3]
    exact I2.laid (t' := s2.toks) (fun b o e => Heap.get?_push_of_some _ e) (Nat.le_of_eq hD) ⟨Nat.zero_le _, [], 0, .nil, by rw [← hD]; exact Heap.get?_push_size _ rfl⟩
  have below : ∀ b ∈ fp, b < s2.heap.objs.size := fun b hb => by
    obtain ⟨o, e, _⟩ := T.obj _ _ st2 b hb
    exact Heap.lt_size e
  have f3 : ∀ b ∈ fp, FpOk X pins (upd H2 D (.lst [])) b ∧ b < s3.heap.objs.size := fun b hb => by
    have lt := below b hb
    exact ⟨⟨by rw [upd_ne (by rw [← hD]; exact Nat.ne_of_lt lt)]; exact (f2 b hb).1, (f2 b hb).2⟩, by rw [h3, Heap.size_push]; exact Nat.lt_succ_of_lt lt⟩
  have st3 : tn 0 s3.heap := T.keep _ _ _ st2 fun b _ o e => by rw [h3]; exact Heap.get?_push_of_some _ e
  have I4 := block_start I3 ok hN f3
  have nfp : ∀ b ∈ fp, (upd H2 D (.lst [])) b = none := fun b hb => (f3 b hb).1.1
  have pg := hg s3 (upd H2 D (.lst [])) s3.heap.objs.size (cellsFrom (s3.heap.objs.size + 1) scope.names (cloFrom X.env.cells scope.names [])) fp
  have pt := ht s3 (upd H2 D (.lst [])) s3.heap.objs.size (cellsFrom (s3.heap.objs.size + 1) scope.names (cloFrom X.env.cells scope.names [])) fp
  have pe := he s3 (upd H2 D (.lst [])) s3.heap.objs.size (cellsFrom (s3.heap.objs.size + 1) scope.names (cloFrom X.env.cells scope.names [])) fp
  show codeAny _ _ (.compStart (.ListComp elt [⟨tg, iter, ifs, 0⟩] scope pos) 0 (.ref it) (.ref D) (compEnvC scope (cellsFrom (s3.heap.objs.size + 1) scope.names (cloFrom X.env.cells scope.names [])) s3.heap.objs.size X.env)) (compEnds (model X.prog X.w) X.A X.xe none Qf (.ref D) (compEnvC scope (cellsFrom (s3.heap.objs.size + 1) scope.names (cloFrom X.env.cells scope.names [])) s3.heap.objs.size X.env)) { s3 with heap := pushCells (s3.heap.push { cls := .type "dict", data := .dict #[] }) scope.names }
  have ceF : (compEnvC scope (cellsFrom (s3.heap.objs.size + 1) scope.names (cloFrom X.env.cells scope.names [])) s3.heap.objs.size X.env).frame = X.env.frame := rfl
  generalize hce : compEnvC scope (cellsFrom (s3.heap.objs.size + 1) scope.names (cloFrom X.env.cells scope.names [])) s3.heap.objs.size X.env = ce at I4 pg pt pe ceF ⊢
  have cL : ce.locals = s3.heap.objs.size := by subst hce; rfl
  generalize hH3 : upd H2 D (.lst []) = H3 at I3 I4 pg pt pe w0 nfp f3
  generalize hs4 : ({ s3 with heap := pushCells (s3.heap.push { cls := .type "dict", data := .dict #[] }) scope.names } : Shared) = s4 at I4 ⊢
  have st4 : tn 0 s4.heap := T.keep _ _ _ st3 fun b _ o e => by rw [← hs4]; exact pushCells_keeps _ _ _ _ (Heap.get?_push_of_some _ e)
  generalize hxb : notedBy (model X.prog X.w) X.A ce (fun e s' => compEnds (model X.prog X.w) X.A X.xe none Qf (.ref D) ce (.error e) s') = xb
  have tkb := takes_blk (scope := scope) hst hfm tk I3 f3 cL ceF (fun u s' k => k) hxb.symm
  have pg := pg xb
  have pt := pt xb
  have pe := pe xb _ tkb
  have stat : ∀ {σ' : L2.St} {H' : Hp} {s' : Shared}, L2.Inv (blkX X s3 H3 scope ce fp xb) [] σ' H' s' → (∀ b ∈ fp, H' b = none) → ∀ b ∈ fp, FpOk (blkX X s3 H3 scope ce fp xb) [] H' b := fun {σ' H' s'} I' hn b hb =>
    ⟨hn b hb, (I'.ok.exf b hb).1, I'.ok.exfs b hb, .inl hb, fun x c e => (I'.ok.exf b hb).2 x c e, fun p hp => by simp at hp⟩
  have loop : codeAny (model X.prog X.w) X.A (.compLoop (.ListComp elt [⟨tg, iter, ifs, 0⟩] scope pos) 0 (.ref it) (.ref D) ce) (compEnds (model X.prog X.w) X.A X.xe none Qf (.ref D) ce) s4 := by
    have I4t : L2.Inv (blkX X s3 H3 scope ce fp xb) [] (wipe σ (own.map (·.2))) H3 s4 := I4.toTry xb
    refine compLoop_any (fun n s' => ∃ i H', L2.Inv (blkX X s3 H3 scope ce fp xb) [] (wipe σ (own.map (·.2))) H' s' ∧ tn i s'.heap ∧ (∀ b ∈ fp, H' b = none) ∧ V i n H') ?_ m0 ⟨0, H3, I4t, st4, nfp, w0⟩
    rintro n s5 ⟨i, H5, I5, st5, n5, w5⟩
    rw [hxb]
    rcases turn i n H5 w5 with ⟨stop, qq⟩ | ⟨go, Nx, hNx, step⟩
    · refine thn (T.done (blkX X s3 H3 scope ce fp xb) rfl rfl rfl hc i [] s5 _ H5 xb I5 (stat I5 n5) st5 stop) fun r s6 ⟨hr, I6⟩ => ?_
      subst hr
      have I7 : L2.Inv X pins σ H5 s6 := I3.call' (ch := fp) I6.os I6.base I6.hok I6.bare fun b hb => ⟨(f3 b hb).1.2.2.2.1, (f3 b hb).1.2.1, (f3 b hb).1.2.2.2.2.1, (f3 b hb).1.2.2.2.2.2⟩
      have nC : H5 ce.locals = none := I6.free
      obtain ⟨m, hn, _⟩ := I6.loc
      have hn : s6.heap.Ns ce.locals m := hn
      exact ⟨m, hn, fun h' sb => fin D ce.locals s6 m H5 I7 qq hn (by rw [cL] at nC ⊢; exact I3.fpOk (Nat.le_refl _) nC) h' sb⟩
    · refine thn (T.item (blkX X s3 H3 scope ce fp xb) rfl rfl rfl hc i [] s5 _ H5 xb I5 (stat I5 n5) st5 go) fun r s6 ⟨u, hr, h6⟩ => ?_
      subst hr
      refine thn h6 fun _ s7 ⟨x, H7, I7, r7, y7, st7, n7⟩ => ?_
      have I7' := I7.pinned (stat I7 n7) (T.obj _ _ st7)
      refine thn (pg.run _ s7 _ H7 x u _ I7' r7 (step x H7 y7)) fun _ s8 ⟨σ8, H8, I8, hw8, q8⟩ => ?_
      refine thn (pt.run _ s8 σ8 H8 _ I8 q8) fun b s9 ⟨H9, I9, q9⟩ => ?_
      have next : ∀ {s' : Shared} {H' : Hp}, L2.Inv (blkX X s3 H3 scope ce fp xb) ([] ++ pinsAt fp s7.heap) σ8 H' s' → Nx H' → ∃ m, m < n ∧ ∃ i H', L2.Inv (blkX X s3 H3 scope ce fp xb) [] (wipe σ (own.map (·.2))) H' s' ∧ tn i s'.heap ∧ (∀ b ∈ fp, H' b = none) ∧ V i m H' := fun {s' H'} I' nx => by
        obtain ⟨k, hk, w'⟩ := hNx H' nx
        have pn : ∀ b ∈ fp, ∀ o, s7.heap.get? b = some o → s'.heap.get? b = some o ∧ H' b = none := fun b hb o e =>
          have z := I'.pin (b, o) (List.mem_append_right _ (List.mem_append_right _ (mem_pinsAt hb e)))
          ⟨z.1, z.2.1⟩
        refine ⟨k, hk, i + 1, H', (I'.unpinned (pins := [])).weak (by rw [← hw8, wipe_length]) (fun j v e => (wipe_some (hw8 ▸ e)).1), T.keep _ _ _ st7 fun b hb o e => (pn b hb o e).1, fun b hb => ?_, w'⟩
        obtain ⟨o, e, _⟩ := T.obj _ _ st7 b hb
        exact (pn b hb o e).2
      cases b with
      | false =>
        simp only [Bool.false_eq_true, if_false] at q9 ⊢
        exact next I9 q9
      | true =>
        simp only [if_true] at q9 ⊢
        exact thn (pe.run _ s9 σ8 H9 _ I9 q9) fun z s10 ⟨yv, H10, I10, r10, acc, hD10, hz10, nx⟩ => app_ok (X := blkX X s3 H3 scope ce fp xb) I10 hD10 hz10 r10 fun s11 I11 => next I11 nx
  exact codeAny_compStart_list loop (T.self X.A 0 _ _ _ st4 loop)
theorem pe_lcX {elt tg iter : Expr} {ifs : List Expr} {scope : Scope} {own : List (Str × Nat)} {pos : Pos} {wi : TI} {g : TG} {tt : TT} {te : XK → TE} (hst : X.stack = X.env :: X.outer) (hfm : X.env.frame = some X.env.locals) (tk : Takes X W) (hc : X.calm = true) (hN : X.N.Nodup) (hi : PI X tg iter wi) (ok : BlkOk X.N X.env.scope scope own)
    (hg : ∀ (s : Shared) (H : Hp) (C : Addr) (cl : List (Str × Addr)) (fp : List Addr) (xb : Value → Shared → Prop), PG (blkX X s H scope (compEnvC scope cl C X.env) fp xb) tg g)
    (ht : ∀ (s : Shared) (H : Hp) (C : Addr) (cl : List (Str × Addr)) (fp : List Addr) (xb : Value → Shared → Prop), PTs (blkX X s H scope (compEnvC scope cl C X.env) fp xb) ifs tt)
    (he : ∀ (s : Shared) (H : Hp) (C : Addr) (cl : List (Str × Addr)) (fp : List Addr) (xb : Value → Shared → Prop) (Eo : XK), Takes (blkX X s H scope (compEnvC scope cl C X.env) fp xb) (fun c d _ H' => Eo c d H') → PE (blkX X s H scope (compEnvC scope cl C X.env) fp xb) elt (te Eo))
    (hs : ∀ x, foldedSetIterable iter X.env x = pure x := by intro _; rfl) :
    PE X (.ListComp elt [⟨tg, iter, ifs, 0⟩] scope pos) (tLcX wi g tt te (own.map (·.2)) W) := by
  refine ⟨fun pins s σ H Q I h => ?_⟩
  rw [eval_ListComp]
  refine lcX_core hst hfm tk hc hN I hi ok hg ht he hs h fun D C s' m H' I' q hn f h'' sb => ?_
  obtain ⟨f0, f1, f2, f3, f4, f5⟩ := f
  exact ⟨.ref D, H', I'.turned (t' := s'.toks) (fun b o hb e => (sb.2 b hb).trans e) f0 f1 f3 f4 f5, rfl, q⟩
end
/-! ### as predicate transformers -/
def compWX (b : BW) (mt : MT) (me : ME) (σ : Env) (vs : List Nat) (gd : Store → Prop) (Q : List Dt → Store → Prop) (Ex : Exn → Store → Prop) : List Dt → List Dt → Store → Prop
  | [], acc, S => gd S ∧ Q acc S
  | w :: ws, acc, S => gd S ∧ match b w (wipeW σ vs) with
    | some σ1 => mt σ1 S (fun c S2 => br c (me σ1 S2 (fun y S3 => acc.length < sizeLine ∧ compWX b mt me σ vs gd Q Ex ws (acc ++ [y]) S3) Ex) (compWX b mt me σ vs gd Q Ex ws acc S2)) (fun _ _ => False)
    | none => False
def mCompX (mi : MI) (b : BW) (mt : MT) (me : ME) (vs : List Nat) : ML := fun σ S Q Ex => mi σ S (fun ws gd S1 => compWX b mt me σ vs gd Q Ex ws [] S1) Ex
theorem Wd.less {K : Frg} {P P' : Hid} {S : Store} {H : Hp} (W : Wd K P' S H) (k : ∀ a, P a → P' a) : Wd K P S H :=
  ⟨fun a o e => (W.sim a o e).conv (fun a o h n q => ⟨h, n, fun p => q (k a p)⟩) (fun u hu => hu), fun a q => W.hid a (k a q)⟩
theorem comp_weakX {K : Frg} {E : WX} {mi : MI} {g : TG} {b : BW} {mt : MT} {me : ME} {vs : List Nat} (hb : Binds1 K g vs b) {σv : L2.St} {H : Hp} {Qv : VK} (h : rdL K E (mCompX mi b mt me vs) σv H Qv) :
    tLcX (rdI K E mi) g (rdT K (fun _ _ _ _ => False) mt) (fun Eo => rdE K (fun c d _ H' => Eo c d H') me) vs E σv H Qv := by
  obtain ⟨P, S, σ, Q, Ex, W, r, m, nl, nx⟩ := h
  refine ⟨P, S, σ, _, Ex, W, r, m, fun J H1 ws gd S1 W1 e1 dl m1 => ?_, nx⟩
  intro Dl hD
  have fr := W1.free hD
  have hp : ∀ b, (P b ∨ b = Dl) → P b ∨ H1 b = none := fun b h => h.imp id fun z => by rw [z]; exact hD
  have nD : ∀ {a o}, H1 a = some o → a ≠ Dl := fun h z => by rw [z, hD] at h; cases h
  refine ⟨fun i k H2 => ∃ S2 us acc xs, Wd K (fun b => P b ∨ b = Dl) S2 H2 ∧ Evo S1 H1 S2 H2 ∧ H2 Dl = some (.lst xs) ∧ RpL K (fun b => P b ∨ b = Dl) S2 H2 acc xs ∧ us = ws.drop i ∧ k = us.length ∧ i ≤ ws.length ∧ compWX b mt me σ vs gd Q Ex us acc S2, ⟨ws.length, S1, ws, [], [], ?_, Evo.new hD, upd_same, RpL.nil, rfl, rfl, Nat.zero_le _, m1⟩, ?_⟩
  · refine ⟨fun a o e => ?_, fun a q => ?_⟩
    · refine (W1.sim a o e).conv (fun a' o' h' n' p' => ⟨by rw [upd_ne (nD h')]; exact h', n', fun q => q.elim p' fun z => nD h' z⟩) (fun u hu => by rw [upd_ne (nD hu)]; exact hu)
    · rcases q with q | q
      · obtain ⟨h1, u, h2⟩ := W1.hid a q
        exact ⟨h1, u, by rw [upd_ne (nD h2)]; exact h2⟩
      · rw [q]; exact ⟨fr.1, _, upd_same⟩
  · rintro i k H2 ⟨S2, us, acc, xs, W2, e2, hx, rl, eu, ek, hi, f⟩
    have sD : S2 Dl = none := (W2.hid Dl (.inr rfl)).1
    cases us with
    | nil =>
      unfold compWX at f
      have hl : ws.length ≤ i := by
        have := congrArg List.length eu
        simp at this
        omega
      refine .inl ⟨(dl _ S2 H2 i hp W2 e2 f.1).2 hl, ?_⟩
      have dn : ∀ {a : Addr}, a ≠ Dl → hdel H2 Dl a = H2 a := fun {a} z => by unfold hdel; rw [if_neg z]
      have c : ∀ a o, H2 a = some o → S2 a = none → ¬ (P a ∨ a = Dl) → hdel H2 Dl a = some o ∧ S2 a = none ∧ ¬ P a := fun a o h n q => ⟨by rw [dn fun z => q (.inr z)]; exact h, n, fun z => q (.inl z)⟩
      refine nl Dl (hdel H2 Dl) H2 xs acc S2 ⟨fun a o e => ?_, fun a q => ?_⟩ (by unfold hdel; rw [if_pos rfl]) ?_ (rl.conv c) (e1.trans fun a o n h => ?_) f.2
      · exact (W2.sim a o e).conv c fun u hu => by rw [dn fun z => by rw [z, sD] at e; cases e]; exact hu
      · obtain ⟨h1, u, h2⟩ := W2.hid a (.inl q)
        exact ⟨h1, u, by rw [dn fun z => fr.2 (z ▸ q)]; exact h2⟩
      · funext a
        by_cases z : a = Dl
        · rw [z, upd_same]; exact hx
        · rw [upd_ne z, dn z]
      · obtain ⟨h1, h2⟩ := e2 a o n h
        exact ⟨by rw [dn (nD h)]; exact h1, h2⟩
    | cons w us =>
      unfold compWX at f
      have ew : ws[i]? = some w := by
        have := congrArg List.head? eu
        rw [List.head?_cons, List.head?_drop] at this
        exact this.symm
      have hil : i < ws.length := (List.getElem?_eq_some_iff.mp ew).1
      have eu2 : us = ws.drop (i + 1) := by
        have := congrArg List.tail eu
        rw [List.tail_cons, List.tail_drop] at this
        exact this
      obtain ⟨hgo, hy⟩ := (dl _ S2 H2 i hp W2 e2 f.1).1 w ew
      refine .inr ⟨hgo, fun H' => ∃ S3 acc' xs', Wd K (fun b => P b ∨ b = Dl) S3 H' ∧ Evo S1 H1 S3 H' ∧ H' Dl = some (.lst xs') ∧ RpL K (fun b => P b ∨ b = Dl) S3 H' acc' xs' ∧ compWX b mt me σ vs gd Q Ex us acc' S3, fun H' hN => ?_, fun x H' hx' => ?_⟩
      · obtain ⟨S3, acc', xs', W3, e3, h3, rl3, f3⟩ := hN
        exact ⟨us.length, by rw [ek, List.length_cons]; omega, S3, us, acc', xs', W3, e3, h3, rl3, eu2, rfl, hil, f3⟩
      · obtain ⟨W3, e3, r3⟩ := hy x H' hx'
        have f2 := f.2
        split at f2
        · rename_i σ1 eb
          have rs : RpS K (fun b => P b ∨ b = Dl) S2 H' σ σv := ⟨r.1, fun j z q => by
            obtain ⟨v, a, b⟩ := (r.mono e1).2 j z q
            exact ⟨v, a, rp_live hp (e2.trans e3) b⟩⟩
          refine hb _ S2 H' w x σ σ1 σv _ W3 rs r3 eb fun σv' rs' ewp => ⟨ewp, _, S2, σ1, _, _, W3, rs', f2, fun cc H4 S4 W4 e4 q4 => ?_, fun _ _ _ _ _ _ _ _ q => q.elim⟩
          have h4 : H4 Dl = some (.lst xs) ∧ S4 Dl = none := (e3.trans e4) Dl _ sD hx
          cases cc with
          | true =>
            refine ⟨_, S4, σ1, _, Ex, W4, rs'.mono e4, q4, fun y H5 wy S5 W5 r5 e5 q5 => ?_, fun c0 d0 H5 x0 S5 W5 r5 e5 q5 => ?_⟩
            · have h5 := e5 Dl _ h4.2 h4.1
              have c : ∀ a o, H5 a = some o → S5 a = none → ¬ (P a ∨ a = Dl) → upd H5 Dl (.lst (xs ++ [y])) a = some o ∧ S5 a = none ∧ ¬ (P a ∨ a = Dl) := fun a o h n q => ⟨by rw [upd_ne fun z => q (.inr z)]; exact h, n, q⟩
              refine ⟨xs, h5.1, by rw [← rl.length]; exact q5.1, S5, acc ++ [wy], xs ++ [y], ⟨fun a o e => ?_, fun a q => ?_⟩, fun a o n h => ?_, upd_same, ?_, q5.2⟩
              · exact (W5.sim a o e).conv c fun u hu => by rw [upd_ne fun z => by rw [z, h5.2] at e; cases e]; exact hu
              · by_cases z : a = Dl
                · rw [z]; exact ⟨h5.2, _, upd_same⟩
                · obtain ⟨h1, u, h2⟩ := W5.hid a q
                  exact ⟨h1, u, by rw [upd_ne z]; exact h2⟩
              · obtain ⟨h1, h2⟩ := (((e2.trans e3).trans e4).trans e5) a o n h
                exact ⟨by rw [upd_ne (nD h)]; exact h1, h2⟩
              · exact ((rl.mono ((e3.trans e4).trans e5)).append (RpL.cons r5 RpL.nil)).conv c
            · exact nx c0 d0 H5 x0 S5 (W5.less fun a p => .inl p) (r5.conv fun a o h n q => ⟨h, n, fun p => q (.inl p)⟩) ((((e1.trans e2).trans e3).trans e4).trans e5) q5
          | false => exact ⟨S4, acc, xs, W4, (e2.trans e3).trans e4, h4.1, rl.mono (e3.trans e4), q4⟩
        · exact f2.elim
section
variable {X : Cx} {E : WX}
theorem jl_compX {elt tg iter : Expr} {ifs : List Expr} {scope : Scope} {own : List (Str × Nat)} {pos : Pos} {mi : MI} {g : TG} {b : BW} {mt : MT} {me : ME} (hst : X.stack = X.env :: X.outer) (hfm : X.env.frame = some X.env.locals) (tk : Takes X E) (hc : X.calm = true) (hN : X.N.Nodup) (hi : JI X E tg iter mi) (ok : BlkOk X.N X.env.scope scope own) (hb : Binds1 X.K g (own.map (·.2)) b)
    (hg : ∀ (s : Shared) (H : Hp) (C : Addr) (cl : List (Str × Addr)) (fp : List Addr) (xb : Value → Shared → Prop), PG (blkX X s H scope (compEnvC scope cl C X.env) fp xb) tg g)
    (ht : ∀ (s : Shared) (H : Hp) (C : Addr) (cl : List (Str × Addr)) (fp : List Addr) (xb : Value → Shared → Prop), JTs (blkX X s H scope (compEnvC scope cl C X.env) fp xb) (fun _ _ _ _ => False) ifs mt)
    (he : ∀ (s : Shared) (H : Hp) (C : Addr) (cl : List (Str × Addr)) (fp : List Addr) (xb : Value → Shared → Prop) (Eo : XK), Takes (blkX X s H scope (compEnvC scope cl C X.env) fp xb) (fun c d _ H' => Eo c d H') → JE (blkX X s H scope (compEnvC scope cl C X.env) fp xb) (fun c d _ H' => Eo c d H') elt me)
    (hs : ∀ x, foldedSetIterable iter X.env x = pure x := by intro _; rfl) : JL X E (.ListComp elt [⟨tg, iter, ifs, 0⟩] scope pos) (mCompX mi b mt me (own.map (·.2))) :=
  PE.weak (pe_lcX (W := E) (tt := rdT X.K (fun _ _ _ _ => False) mt) (te := fun Eo => rdE X.K (fun c d _ H' => Eo c d H') me) hst hfm tk hc hN hi ok hg ht he hs) fun _ _ _ q => comp_weakX hb q
/-! ### a module's tuples -/
def Gtup (K : Frg) (mg : Str → Option Value) (x : Str) (ws : List Dt) : Prop := ∃ a xs, mg x = some (.ref a) ∧ KT K a xs ∧ ∀ P S H, RpL K P S H ws xs
theorem je_gt {x : Str} {ws : List Dt} {pos : Pos} (hg : Gl X x) (hm : Gtup X.K X.mg x ws) (hd : (x == ("__debug__" : Str)) = false := by decide) : JE X E (.Name x pos) (mC (.kt ws)) :=
  let ⟨a, xs, h1, h2, h3⟩ := hm
  je_c (pe_glob (v := .ref a) hg h1 rfl hd) fun P S H => by
    unfold Rp
    exact ⟨a, xs, rfl, h2, h3 P S H⟩
/-- the plain items of a written tuple -/
def litV : Dt → Option V
  | .int i => some (.int i)
  | .str z => some (.str z)
  | _ => none
def litVs : List Dt → Option (List V)
  | [] => some []
  | w :: ws => match litV w, litVs ws with
    | some v, some vs => some (v :: vs)
    | _, _ => none
theorem litVs_rp {K : Frg} : ∀ {ws : List Dt} {vs : List V}, litVs ws = some vs → ∀ P S H, RpL K P S H ws vs
  | [], vs, h, P, S, H => by cases h; exact RpL.nil
  | w :: ws, vs, h, P, S, H => by
    unfold litVs at h
    split at h
    · rename_i v us e1 e2
      cases h
      refine RpL.cons ?_ (litVs_rp e2 P S H)
      cases w with
      | int i => cases e1; unfold Rp; rfl
      | str z => cases e1; unfold Rp; rfl
      | _ => cases e1
    · cases h
theorem gtup_mk {K : Frg} {mg : Str → Option Value} {h : Heap} {x : Str} {ws : List Dt} {vs : List V} {a : Addr} {its : Array Value} {n : Nat} {sl : Array (Option Value)} (X : K.In h) (G : h.Ns mainGlobals mg) (e : PySem.W.nsIn K mainGlobals x = some (some (.ref a)))
    (l : K.lookup a = some ⟨.type "tuple", none, .seq its n, sl⟩) (hv : litVs ws = some vs) (hz : its.size ≤ sizeLine) (hr : Vals vs its.toList) : Gtup K mg x ws :=
  ⟨a, vs, PySem.W.mg_of X G e, ⟨.inr ⟨_, its, n, l, rfl, rfl, hz, hr⟩, _, l, rfl, rfl⟩, fun P S H => litVs_rp hv P S H⟩
/-- t.index(text), t a written tuple of texts -/
def findW (z : Str) : List Dt → Nat → Option Nat
  | .str y :: ws, k => if y = z then some k else findW z ws (k + 1)
  | _, _ => none
def pyTIndex : Dt → OpN
  | .kt ws, [.str z], S, Q => match findW z ws 0 with
    | some k => (ws.all fun w => match w with | .str _ => true | _ => false) = true ∧ Q (.int (k : Nat)) S
    | none => False
  | _, _, _, _ => False
theorem findW_of {z : Str} : ∀ {ys : List Str} {k j : Nat}, findW z (strsW ys) k = some j → ∃ i, j = k + i ∧ ys[i]? = some z ∧ ∀ m, m < i → ys[m]? ≠ some z
  | [], k, j, h => by cases h
  | y :: ys, k, j, h => by
    change (if y = z then some k else findW z (strsW ys) (k + 1)) = some j at h
    by_cases e : y = z
    · rw [if_pos e] at h
      cases h
      exact ⟨0, rfl, by rw [e]; rfl, fun m hm => absurd hm (Nat.not_lt_zero _)⟩
    · rw [if_neg e] at h
      obtain ⟨i, e1, e2, e3⟩ := findW_of h
      refine ⟨i + 1, by omega, by simpa using e2, fun m hm => ?_⟩
      cases m with
      | zero => intro q; simp at q; exact e q
      | succ m =>
        have := e3 m (by omega)
        simpa using this
theorem strsW_of : ∀ {ws : List Dt}, (ws.all fun w => match w with | .str _ => true | _ => false) = true → ∃ ys, ws = strsW ys
  | [], _ => ⟨[], rfl⟩
  | w :: ws, h => by
    rw [List.all_cons, Bool.and_eq_true] at h
    obtain ⟨ys, rfl⟩ := strsW_of h.2
    cases w with
    | str y => exact ⟨y :: ys, rfl⟩
    | _ => cases h.1
theorem m_tindex : MtR X "tuple.index" (rdM X.K pyTIndex) := by
  intro pins s σ H x vs v us Qv I rx rv h
  obtain ⟨P, S, w, ws, Q, W, r1, r2, g, nq⟩ := h
  unfold pyTIndex at g
  split at g
  · rename_i ts z
    obtain ⟨a, xs, rfl, h1, rl⟩ := rp_kt r1
    obtain ⟨y, rfl, r3⟩ := r2.one
    rw [rp_str] at r3
    subst r3
    split at g
    · rename_i k ek
      obtain ⟨ys, rfl⟩ := strsW_of g.1
      obtain ⟨i, e1, e2, e3⟩ := findW_of ek
      rw [Nat.zero_add] at e1
      subst e1
      have ex := strs_rp rl
      refine mt_tup_index pins s σ H _ _ v us Qv I rx rv ⟨a, ys, z, k, rfl, rfl, by rw [← ex]; exact h1.sq, e2, e3, nq.now W rpInt g.2⟩
    · exact g.elim
  · exact g.elim
/-! ### a, o.f = .. -/
theorem jg_fld {C0 : Addr} {ns0 : List Str} {i : Nat} {f : Str} {o : Expr} {mo : ME} {pos : Pos} (T : FldC X.K C0 f) (hi : FieldAt ns0 i f) (hn : ns0.length < 1000) (ho : JE X E o mo) :
    JG X E (.Attribute o f pos) (fun w σ S Q Ex => mo σ S (fun z S1 => stF C0 ns0 i w (fun S2 => Q σ S2) z S1) (fun x S1 => Ex x σ S1)) := by
  refine ⟨fun pins s σv H v u R I r h => ?_⟩
  obtain ⟨P, S, σ, w, Q, Ex, W, rs, rw', m, nn, nx⟩ := h
  refine PySem.W.kas_attr (thn (ho.run pins s σv H (fun y H2 => ∃ a dx fs, y = .ref a ∧ H2 a = some (.ins C0 dx fs) ∧ fs.length < 1000 ∧ R σv (upd H2 a (.ins C0 dx (putF f v fs)))) I ⟨P, S, σ, _, _, W, rs, m, fun y H2 z S2 W2 r2 e2 m2 => ?_, nx.at rs⟩) fun ov s1 q => ?_)
  · unfold stF at m2
    dsimp only at m2
    split at m2
    · rename_i a
      split at m2
      · rename_i C ns ws ea
        obtain ⟨rfl, rfl, m2⟩ := m2
        rw [rp_ref] at r2
        subst r2
        obtain ⟨dx, xs, eh, hz, rl⟩ := W2.sim a _ ea
        have hl : xs.length = ns.length := by rw [← rl.length]; exact hz.symm
        refine ⟨a, dx, _, rfl, eh, by rw [List.length_zip]; omega, ?_⟩
        rw [zip_put hi.1 hi.2 hl]
        have ev : Evo S2 H2 (sup S2 a (.ins C ns (ws.set i w))) (upd H2 a (.ins C dx (ns.zip (xs.set i v)))) := Evo.set ea
        exact nn _ _ _ _ (W2.putI ea (by rw [List.length_set]; exact hz) ((rl.set i (rw'.mono e2)).mono ev)) (rs.mono (e2.trans ev)) (e2.trans ev) m2
      · exact m2.elim
    · exact m2.elim
  · obtain ⟨y, H2, I2, r2, a, dx, fs, rfl, ea, hl, q⟩ := q
    obtain rfl : ov = Value.ref a := r2
    exact setattr_ok I2 ea T.cl T.no hl r fun s3 I3 => ⟨σv, _, I3, q⟩
end
end Dn
namespace Dn
open PySem PySem.Spec PyProof.Rows L2
theorem compX_inv {α : Type} {b : BW} {mt : MT} {me : ME} {σ : Env} {vs : List Nat} {gd : Store → Prop} {Q : List Dt → Store → Prop} {Ex : Exn → Store → Prop} (F : α → Dt) (J : Nat → List Dt → Store → Prop) : ∀ (xs : List α) (i : Nat) (acc : List Dt) (S : Store),
    (∀ j x, i ≤ j → xs[j - i]? = some x → ∀ acc S, J j acc S → gd S ∧ ∃ σ1, b (F x) (wipeW σ vs) = some σ1 ∧ ∀ N : List Dt → Store → Prop, (∀ acc' S', J (j + 1) acc' S' → N acc' S') → mt σ1 S (fun c S2 => br c (me σ1 S2 (fun y S3 => acc.length < sizeLine ∧ N (acc ++ [y]) S3) Ex) (N acc S2)) (fun _ _ => False)) →
    J i acc S → (∀ acc S, J (i + xs.length) acc S → gd S ∧ Q acc S) → compWX b mt me σ vs gd Q Ex (xs.map F) acc S
  | [], i, acc, S, _, j, e => by
    rw [List.map_nil]
    unfold compWX
    exact e acc S j
  | x :: xs, i, acc, S, h, j, e => by
    rw [List.map_cons]
    unfold compWX
    obtain ⟨g, σ1, eb, k⟩ := h i x (Nat.le_refl _) (by rw [Nat.sub_self]; rfl) acc S j
    refine ⟨g, ?_⟩
    rw [eb]
    refine k _ fun acc' S' j' => compX_inv F J xs (i + 1) acc' S' (fun j2 y h1 h2 => h j2 y (by omega) (by
      rw [show j2 - i = (j2 - (i + 1)) + 1 by omega, List.getElem?_cons_succ]
      exact h2)) j' fun acc S z => e acc S (by rw [List.length_cons, show i + (xs.length + 1) = i + 1 + xs.length by omega]; exact z)
/-! ### tuple(range(n)), list(range(n)) -/
section
variable {X : Cx} {E : WX}
def rngQ (Q : List Dt → Store → Prop) (w : Dt) (S : Store) : Prop := match w with
  | .int n => n ≤ 16777216 ∧ -16777216 ≤ n ∧ Q (rangeW 0 n.toNat) S
  | _ => False
theorem rg_rp {K : Frg} {P : Hid} {S : Store} {H : Hp} : ∀ (n : Nat) (lo : Int), RpL K P S H (rangeW lo n) ((List.range n).map fun (i : Nat) => V.int (lo + (i : Nat)))
  | 0, lo => by rw [show (List.range 0).map (fun (i : Nat) => V.int (lo + (i : Nat))) = [] from rfl]; exact RpL.nil
  | n + 1, lo => by
    rw [List.range_succ_eq_map, List.map_cons, List.map_map]
    refine RpL.cons (by unfold Rp; rw [show lo + ((0 : Nat) : Int) = lo by omega]) ?_
    rw [show (fun (i : Nat) => V.int (lo + (i : Nat))) ∘ Nat.succ = fun (i : Nat) => V.int ((lo + 1) + (i : Nat)) from funext fun i => by
      show V.int (lo + ((i + 1 : Nat) : Int)) = _
      congr 1
      omega]
    exact rg_rp n (lo + 1)
theorem je_tupRg {a : Expr} {ma : ME} {p q pos pos2 : Pos} (hc : X.calm = true) (hg : Gl X "tuple") (hm : X.mg "tuple" = none) (hg2 : Gl X "range") (hm2 : X.mg "range" = none) (ha : JE X E a ma)
    (na : starEach [.Call (.Name "range" q) [a] [] pos2] X.env = (false, eval (.Call (.Name "range" q) [a] [] pos2) X.env) :: starEach [] X.env := by rfl) (nb : starEach [a] X.env = (false, eval a X.env) :: starEach [] X.env := by rfl) :
    JE X E (.Call (.Name "tuple" p) [.Call (.Name "range" q) [a] [] pos2] [] pos) (fun σ S Q Ex => ma σ S (rngQ fun ws S1 => Q (.tup ws) S1) Ex) := PE.weak (pe_tupRg hc hg hm (prg_1 hg2 hm2 ha nb) na) fun σv H Qv h => by
  obtain ⟨P, S, σ, Q, Ex, W, r, m, nq, nx⟩ := h
  refine ⟨P, S, σ, _, Ex, W, r, m, fun v H1 w S1 W1 r1 e1 m1 => ?_, nx⟩
  unfold rngQ at m1
  split at m1
  · rename_i n
    rw [rp_int] at r1
    subst r1
    refine ⟨n, rfl, ⟨by omega, by omega, by omega, by omega, by omega⟩, fun D hD => ?_⟩
    have q := (nq.after e1).tup W1 (rg_rp n.toNat 0) m1.2.2 hD
    unfold rgV
    rw [Int.sub_zero]
    exact q
  · exact m1.elim
end
end Dn

/-! Dn: range(n) for n of any size. -/
namespace Dn
open PySem PySem.Spec PyProof.Rows L2 PySem.W
theorem turn_long {P : Program} {w : World} {K : Frg} {tg : Expr} (it : Addr) (lo : Int) (n : Nat) : Turn P w K tg (Itr lo n) [it] it (fun i h => IsLongIter h it (lo + (i : Nat) * 1) ((n : Int) - (i : Nat)) 1) where
  mem := List.mem_singleton.mpr rfl
  obj := fun i h st b hb => by
    rw [List.mem_singleton] at hb
    subst hb
    refine ⟨_, st, fun v z => ?_⟩
    have z : Data.fields _ = Data.cell v := z
    cases z
  keep := fun i h h' st k => k it (List.mem_singleton.mpr rfl) _ st
  item := fun X hP hw hK hc i pins s σ H E I hf st hg => by
    subst hP hw hK
    obtain ⟨f0, f1, f2, f3, f4, f5⟩ := hf it (List.mem_singleton.mpr rfl)
    refine (Walks.longrange (prog := X.prog) (w := X.w) (I.ok.hd hc) it lo 1 n).item i s _ _ hg st fun v h' tk hv st' kk => ?_
    obtain ⟨t, rfl⟩ := hv
    have I1 : L2.Inv X pins σ H { s with heap := h', toks := tk } := I.turned (fun b o hb e => kk b o (by rw [List.mem_singleton]; exact hb) e) f0 f1 f3 f4 f5
    refine ⟨_, rfl, go_of (s := { s with heap := h', toks := tk }) (n := "longrange_iterator") st' rfl rfl (by decide) ⟨.int (lo + i), H, I1, ⟨t, ?_⟩, ⟨rfl, rfl⟩, st', fun b hb => (hf b hb).1⟩⟩
    rw [Int.mul_one]
  done := fun X hP hw hK hc i pins s σ H E I hf st hg => by
    subst hP hw hK
    obtain ⟨f0, f1, f2, f3, f4, f5⟩ := hf it (List.mem_singleton.mpr rfl)
    have hg : n ≤ i := hg
    exact wpAny_pyNext_long_end (I.ok.hd hc) st (by omega) fun h' eb => ⟨rfl, I.turned (t' := s.toks) (fun b o hb e => eb b o hb e) f0 f1 f3 f4 f5⟩
  self := fun _ _ _ _ _ st h => wpAny_pyIter_longiter st h
section
variable {X : Cx} {E : WX}
theorem range_itB {tg : Expr} {pins : List (Addr × Obj)} {σ : L2.St} {H : Hp} {s : Shared} {R : It → Hp → Prop} {Ev : Value → Shared → Prop} {lo hi : Int} {t u v : Tok} {tk : Nat} (I : L2.Inv X pins σ H s) (q : R (Itr lo (hi - lo).toNat) H) :
    wpAny (model X.prog X.w) X.A (pyIter (.ref s.heap.objs.size)) (PIE X pins σ tg R) Ev { s with heap := s.heap.push { cls := .type "range", data := .fields #[.int lo t, .int hi u, .int 1 v] }, toks := tk } := by
  have I1 : L2.Inv X pins σ H { s with heap := s.heap.push { cls := .type "range", data := .fields #[.int lo t, .int hi u, .int 1 v] }, toks := tk } := I.kept fun b o e => Heap.get?_push_of_some _ e
  have e1 : lo + ((0 : Nat) : Int) * 1 = lo := by omega
  have e2 : (((hi - lo).toNat : Nat) : Int) - ((0 : Nat) : Int) = Builtin.Range.rangeSize lo hi 1 := by rw [rangeSize_one]; split <;> omega
  have fp : ∀ b ∈ [(s.heap.push { cls := .type "range", data := .fields #[.int lo t, .int hi u, .int 1 v] }).objs.size], FpOk X pins H b := fun b hb => by
    rw [List.mem_singleton] at hb
    subst hb
    exact I1.fpOk (Nat.le_refl _) (I1.hok.fresh (Nat.le_refl _))
  cases hs : Builtin.Range.small lo hi 1 with
  | true =>
    refine wpAny_pyIter_range (IsRange.new ..) hs ⟨_, _, _, _, H, rfl, I1.kept (t' := tk) fun b o e => Heap.get?_push_of_some _ e, turn_range _ lo (hi - lo).toNat, ?_, fp, q⟩
    show IsRangeIter _ _ (lo + ((0 : Nat) : Int) * 1) ((((hi - lo).toNat : Nat) : Int) - ((0 : Nat) : Int)) 1
    rw [e1, e2]
    exact Heap.get?_push_size _ rfl
  | false =>
    refine wpAny_pyIter_longrange (IsRange.new ..) hs ⟨_, _, _, _, H, rfl, I1.kept (t' := tk) fun b o e => Heap.get?_push_of_some _ e, turn_long _ lo (hi - lo).toNat, ?_, fp, q⟩
    show IsLongIter _ _ (lo + ((0 : Nat) : Int) * 1) ((((hi - lo).toNat : Nat) : Int) - ((0 : Nat) : Int)) 1
    rw [e1, e2]
    exact Heap.get?_push_size _ rfl
def iRngB (ta : TA) : TI := fun σ H R => ta σ H fun vs H1 => ∃ j : Int, vs = [.int j] ∧ R (Itr 0 j.toNat) H1
theorem pi_rangeB {tg a : Expr} {ta : TA} {p pos : Pos} (hg : Gl X "range") (hm : X.mg "range" = none) (ha : PA X [a] ta) (hs : starEach [a] X.env = [(false, eval a X.env)] := by rfl) : PI X tg (.Call (.Name "range" p) [a] [] pos) (iRngB ta) := by
  refine ⟨fun pins s σ H R I h => Call_ (ld_blt I hg hm boot_range (PyProof.Rows.callWith_type1 (thn (ha.run pos pins s σ H _ I h) fun us s1 ⟨vs, H1, I1, r1, q1⟩ => ?_) hs rfl))⟩
  obtain ⟨j, rfl, q⟩ := q1
  cases r1 with
  | cons r rr =>
    cases rr
    obtain ⟨t, rfl⟩ := r
    exact call_range_1 (range_itB I1 (by rw [Int.sub_zero]; exact q))
def mRngB (m : MA) : MI := fun σ S Q Ex => m σ S (fun ws S1 => match ws with | [.int n] => Q (rangeW 0 n.toNat) (fun _ => True) S1 | _ => False) Ex
theorem ji_rngB {tg a : Expr} {m : MA} {p pos : Pos} (hg : Gl X "range") (hm : X.mg "range" = none) (ha : JA X E [a] m) (hs : starEach [a] X.env = [(false, eval a X.env)] := by rfl) : JI X E tg (.Call (.Name "range" p) [a] [] pos) (mRngB m) := PI.weak (pi_rangeB hg hm ha hs) fun σv H R q => by
  obtain ⟨P, S, σ, Q, Ex, W, r, m, nj, nx⟩ := q
  refine ⟨P, S, σ, _, Ex, W, r, m, fun v H1 w S1 W1 r1 e1 m1 => ?_, nx⟩
  dsimp only at m1
  split at m1
  · obtain ⟨y, rfl, r2⟩ := r1.one
    rw [rp_int] at r2
    subst r2
    exact ⟨_, rfl, nj _ H1 _ _ S1 W1 e1 rng_deliv m1⟩
  · exact m1.elim
end
end Dn
namespace Dn
open PySem PySem.Spec PyProof.Rows L2 PySem.W
/-! ### max, min of a tuple of numbers -/
theorem reads_ints {h : Heap} : ∀ {ns : List Int} {its : List Value}, Vals (ns.map V.int) its → ReadsAll h its (ns.map PyData.int) []
  | [], its, r => by cases r; exact .nil
  | n :: ns, its, r => by
    rw [List.map_cons] at r
    cases r with
    | cons r1 r2 =>
      obtain ⟨t, rfl⟩ := r1
      exact ReadsAll.cons (as := []) (.int n t) (reads_ints r2)
theorem alike_ints (ns : List Int) : AlikeAll (ns.map PyData.int) := by
  refine ⟨fun x hx y hy => ?_, fun x hx => ?_⟩
  · obtain ⟨i, _, rfl⟩ := List.mem_map.mp hx
    obtain ⟨j, _, rfl⟩ := List.mem_map.mp hy
    rfl
  · obtain ⟨i, _, rfl⟩ := List.mem_map.mp hx
    exact fun z => by cases z
theorem depth_ints : ∀ ns : List Int, PyData.depthAll (ns.map PyData.int) ≤ 1
  | [] => Nat.zero_le _
  | n :: ns => by
    have := depth_ints ns
    rw [List.map_cons]
    unfold PyData.depthAll
    refine Nat.max_le.mpr ⟨?_, this⟩
    unfold PyData.depth
    decide
theorem fold_max : ∀ (ns : List Int) (n : Int), (ns.foldl max n = n ∨ ns.foldl max n ∈ ns) ∧ n ≤ ns.foldl max n ∧ ∀ y ∈ ns, y ≤ ns.foldl max n
  | [], n => ⟨.inl rfl, Int.le_refl _, (fun y h => nomatch h)⟩
  | m :: ns, n => by
    obtain ⟨h1, h2, h3⟩ := fold_max ns (max n m)
    rw [List.foldl_cons]
    refine ⟨?_, by omega, fun y hy => ?_⟩
    · rcases h1 with h1 | h1
      · rw [h1]
        by_cases z : n ≤ m
        · exact .inr (by rw [show max n m = m by omega]; exact List.mem_cons_self)
        · exact .inl (by omega)
      · exact .inr (List.mem_cons_of_mem _ h1)
    · rcases List.mem_cons.mp hy with rfl | hy
      · omega
      · exact h3 y hy
theorem fold_min : ∀ (ns : List Int) (n : Int), (ns.foldl min n = n ∨ ns.foldl min n ∈ ns) ∧ ns.foldl min n ≤ n ∧ ∀ y ∈ ns, ns.foldl min n ≤ y
  | [], n => ⟨.inl rfl, Int.le_refl _, (fun y h => nomatch h)⟩
  | m :: ns, n => by
    obtain ⟨h1, h2, h3⟩ := fold_min ns (min n m)
    rw [List.foldl_cons]
    refine ⟨?_, by omega, fun y hy => ?_⟩
    · rcases h1 with h1 | h1
      · rw [h1]
        by_cases z : m ≤ n
        · exact .inr (by rw [show min n m = m by omega]; exact List.mem_cons_self)
        · exact .inl (by omega)
      · exact .inr (List.mem_cons_of_mem _ h1)
    · rcases List.mem_cons.mp hy with rfl | hy
      · omega
      · exact h3 y hy
def pyMaxT : OpN
  | [.tup ws], S, Q => ∃ ns : List Int, ws = ns.map Dt.int ∧ 0 < ns.length ∧ ∀ m, m ∈ ns → (∀ y, y ∈ ns → y ≤ m) → Q (.int m) S
  | ws, S, Q => pyMax ws S Q
def pyMinT : OpN
  | [.tup ws], S, Q => ∃ ns : List Int, ws = ns.map Dt.int ∧ 0 < ns.length ∧ ∀ m, m ∈ ns → (∀ y, y ∈ ns → m ≤ y) → Q (.int m) S
  | ws, S, Q => pyMin ws S Q
section
variable {X : Cx}
theorem c_maxT (hc : X.calm = true) (hu : X.A.units + 64 < cLine) : CallR X (.builtin "max") (rdN X.K pyMaxT) := by
  intro pins s σ H vs us Qv I rv h
  obtain ⟨P, S, ws, Q, W, r, g, nq⟩ := h
  unfold pyMaxT at g
  split at g
  · obtain ⟨ns, rfl, g0, g⟩ := g
    obtain ⟨v, rfl, r1⟩ := r.one
    obtain ⟨a, xs, rfl, h1, rl⟩ := rp_tup r1
    rw [rl.mapInt] at h1
    obtain ⟨its, rv2, ht, _⟩ := I.tuple h1
    rw [Vals.ref1 rv]
    cases ns with
    | nil => exact absurd g0 (by decide)
    | cons n ns =>
      refine max_tuple_data (I.ok.hd hc) (vs := its.toArray) ht (x := .int n) (xs := ns.map .int) (as := []) (by
        have := reads_ints (h := s.heap) rv2
        simpa using this) (alike_ints (n :: ns)) (by
        have := depth_ints (n :: ns)
        rw [List.map_cons] at this
        omega) fun i v h' tk bs e r2 k => ?_
      rw [maxD_ints] at r2
      cases r2
      obtain ⟨m1, m2, m3⟩ := fold_max ns n
      refine ⟨.int (ns.foldl max n), H, I.kept k, ⟨_, rfl⟩, nq.now W rpInt (g _ ?_ fun y hy => ?_)⟩
      · rcases m1 with m1 | m1
        · rw [m1]; exact List.mem_cons_self
        · exact List.mem_cons_of_mem _ m1
      · rcases List.mem_cons.mp hy with rfl | hy
        · exact m2
        · exact m3 y hy
  · exact c_max hc pins s σ H vs us Qv I rv ⟨P, S, ws, Q, W, r, g, nq⟩
theorem c_minT (hc : X.calm = true) (hu : X.A.units + 64 < cLine) : CallR X (.builtin "min") (rdN X.K pyMinT) := by
  intro pins s σ H vs us Qv I rv h
  obtain ⟨P, S, ws, Q, W, r, g, nq⟩ := h
  unfold pyMinT at g
  split at g
  · obtain ⟨ns, rfl, g0, g⟩ := g
    obtain ⟨v, rfl, r1⟩ := r.one
    obtain ⟨a, xs, rfl, h1, rl⟩ := rp_tup r1
    rw [rl.mapInt] at h1
    obtain ⟨its, rv2, ht, _⟩ := I.tuple h1
    rw [Vals.ref1 rv]
    cases ns with
    | nil => exact absurd g0 (by decide)
    | cons n ns =>
      refine min_tuple_data (I.ok.hd hc) (vs := its.toArray) ht (x := .int n) (xs := ns.map .int) (as := []) (by
        have := reads_ints (h := s.heap) rv2
        simpa using this) (alike_ints (n :: ns)) (by
        have := depth_ints (n :: ns)
        rw [List.map_cons] at this
        omega) fun i v h' tk bs e r2 k => ?_
      rw [minD_ints] at r2
      cases r2
      obtain ⟨m1, m2, m3⟩ := fold_min ns n
      refine ⟨.int (ns.foldl min n), H, I.kept k, ⟨_, rfl⟩, nq.now W rpInt (g _ ?_ fun y hy => ?_)⟩
      · rcases m1 with m1 | m1
        · rw [m1]; exact List.mem_cons_self
        · exact List.mem_cons_of_mem _ m1
      · rcases List.mem_cons.mp hy with rfl | hy
        · exact m2
        · exact m3 y hy
  · exact c_min hc pins s σ H vs us Qv I rv ⟨P, S, ws, Q, W, r, g, nq⟩
end
end Dn
namespace Dn
open PySem PySem.Spec PyProof.Rows L2
section
variable {X : Cx} {E : WX}
/-- a, b, c = x, y, z -/
def mPar3 (i j l : Nat) (ma : MA) : MS := fun D σ S => ma σ S (fun ws S1 => match ws with | [v, w, z] => D.nx (((σ.set i (some v)).set j (some w)).set l (some z)) S1 | _ => False) (fun x S' => D.ex x σ S')
theorem js_par3 {i j l : Nat} {x y z : Str} {a b c : Expr} {ma : MA} {px py pz pt pos : Pos} {kt k2 pt2} (hc : X.calm = true) (hN : X.N.Nodup) (hi : X.N[i]? = some x) (hj : X.N[j]? = some y) (hl : X.N[l]? = some z) (hij : i ≠ j) (hil : i ≠ l) (hjl : j ≠ l)
    (hx : X.env.scope.names.lookup x = some .local) (hy : X.env.scope.names.lookup y = some .local) (hz : X.env.scope.names.lookup z = some .local) (ha : JA X E [a, b, c] ma)
    (hw : swappedStores [.Tuple [.Name x px, .Name y py, .Name z pz] kt pt] (.Tuple [a, b, c] k2 pt2) X.env = pure (some [x, y, z]) := by rfl)
    (hs : swapsWithSole [.Tuple [.Name x px, .Name y py, .Name z pz] kt pt] (.Tuple [a, b, c] k2 pt2) pos.line X.env = pure false := by rfl) :
    JS X E (.Assign [.Tuple [.Name x px, .Name y py, .Name z pz] kt pt] (.Tuple [a, b, c] k2 pt2) pos) (mPar3 i j l ma) := PS.weak (ps_par3 hc hN hi hj hl hij hil hjl hx hy hz ha hw hs) fun σv H D q => by
  obtain ⟨P, S, σ, Dw, W, r, m, d⟩ := q
  refine ⟨P, S, σ, _, _, W, r, m, fun vs H' ws S' W' rl e' q' => ?_, d.ex.at r⟩
  match ws, q' with
  | [v, w, u], q' =>
    obtain ⟨v1, rr, rfl, r1, rl⟩ := (show ∃ v1 rr, vs = v1 :: rr ∧ Rp X.K P S' H' v v1 ∧ RpL X.K P S' H' [w, u] rr by unfold RpL at rl; exact rl)
    obtain ⟨v2, v3, rfl, r2, r3⟩ := rl.two
    exact ⟨v1, v2, v3, rfl, d.nx _ H' _ S' W' ((((r.mono e').set r1).set r2).set r3) e' q'⟩
end
end Dn

/-! Dn: in, not in over tuples of deep data. -/
namespace Dn
open PySem PySem.Spec PyProof.Rows L2 PySem.W
theorem any_memW {w : Dt} {d : PyData} (hw : toP w = some d) : ∀ {ws : List Dt} {ds : List PyData}, toP.toPL ws = some ds → ds.any (fun y => PyData.eqv y d) = memW w ws
  | [], ds, h => by
    unfold toP.toPL at h
    cases h
    rfl
  | z :: ws, ds, h => by
    unfold toP.toPL at h
    split at h
    · rename_i e es h1 h2
      cases h
      rw [List.any_cons, any_memW hw h2, eqv_eqD _ z w e d (Nat.lt_succ_self _) h1 hw]
      rfl
    · cases h
def pyInD (neg : Bool) : Op2 := fun w z S Q => match z with
  | .tup ws => (fl 60 w = true ∧ fl 60 (.tup ws) = true) ∧ Q (.bl (if neg then !memW w ws else memW w ws)) S
  | _ => False
section
variable {X : Cx} {E : WX}
theorem o_inD (hu : X.A.units + 64 < cLine) : OpR X (compareOp .In) (rd2 X.K (pyInD false)) := by
  intro pins s σ H x y v u Qv I rx ry q
  obtain ⟨P, S, w, z, Q, W, r1, r2, g, nq⟩ := q
  unfold pyInD at g
  split at g
  · rename_i ws
    obtain ⟨⟨g1, g2⟩, g3⟩ := g
    obtain ⟨d, ed, cd, zd⟩ := fl_toP 60 w g1
    obtain ⟨e, ee, ce, ze⟩ := fl_toP 60 (.tup ws) g2
    obtain ⟨as, q1⟩ := Dp.reads I d x v (toP_of _ _ _ r1 ed) rx
    obtain ⟨bs, q2⟩ := Dp.reads I e y u (toP_of _ _ _ r2 ee) ry
    unfold toP at ee
    cases ez : toP.toPL ws with
    | none => rw [ez] at ee; cases ee
    | some ds =>
      rw [ez] at ee
      cases ee
      unfold PyData.canLay0 at ce
      refine SeqAt.in_tuple_reads q2 q1 ce cd (Nat.lt_of_le_of_lt (Nat.add_le_add_left (Nat.le_trans (Nat.min_le_right _ _) zd) _) (by omega)) ⟨.bl _, H, I, rfl, ?_⟩
      rw [any_memW ed ez]
      exact nq.now W rpBl g3
  · exact g.elim
theorem o_notinD (hu : X.A.units + 64 < cLine) : OpR X (compareOp .NotIn) (rd2 X.K (pyInD true)) := by
  intro pins s σ H x y v u Qv I rx ry q
  obtain ⟨P, S, w, z, Q, W, r1, r2, g, nq⟩ := q
  unfold pyInD at g
  split at g
  · rename_i ws
    obtain ⟨⟨g1, g2⟩, g3⟩ := g
    obtain ⟨d, ed, cd, zd⟩ := fl_toP 60 w g1
    obtain ⟨e, ee, ce, ze⟩ := fl_toP 60 (.tup ws) g2
    obtain ⟨as, q1⟩ := Dp.reads I d x v (toP_of _ _ _ r1 ed) rx
    obtain ⟨bs, q2⟩ := Dp.reads I e y u (toP_of _ _ _ r2 ee) ry
    unfold toP at ee
    cases ez : toP.toPL ws with
    | none => rw [ez] at ee; cases ee
    | some ds =>
      rw [ez] at ee
      cases ee
      unfold PyData.canLay0 at ce
      refine SeqAt.notIn_tuple_reads q2 q1 ce cd (Nat.lt_of_le_of_lt (Nat.add_le_add_left (Nat.le_trans (Nat.min_le_right _ _) zd) _) (by omega)) ⟨.bl _, H, I, rfl, ?_⟩
      rw [any_memW ed ez]
      exact nq.now W rpBl g3
  · exact g.elim
end
end Dn

/-! Dn: list.pop(i), list.reverse(), list(range(n)). -/
namespace Dn
open PySem PySem.Spec PyProof.Rows L2 PySem.W
section
variable {X : Cx} {E : WX}
theorem RpL.del {K : Frg} {P : Hid} {S : Store} {H : Hp} : ∀ {ws : List Dt} {xs : List V} {k : Nat}, RpL K P S H ws xs → RpL K P S H (ws.eraseIdx k) (xs.eraseIdx k)
  | [], xs, k, r => by rw [r.nilE]; exact RpL.nil
  | z :: ws, xs, 0, r => by
    obtain ⟨u, t, rfl, r1, r2⟩ := r.consE
    exact r2
  | z :: ws, xs, k + 1, r => by
    obtain ⟨u, t, rfl, r1, r2⟩ := r.consE
    exact RpL.cons r1 (RpL.del r2)
/-- list.pop(i), i from the front -/
def pyPopAt : Dt → OpN
  | .ref a, [.int i], S, Q => match S a with
    | some (.lst ws) => 0 ≤ i ∧ ws.length ≤ 16777216 ∧ match ws[i.toNat]? with
      | some w => Q w (sup S a (.lst (ws.eraseIdx i.toNat)))
      | none => False
    | _ => False
  | _, _, _, _ => False
theorem m_popAt : MtR X "list.pop" (rdM X.K pyPopAt) := by
  intro pins s σ H x vs v us Qv I rx rv h
  obtain ⟨P, S, w, ws, Q, W, r1, r2, g, nq⟩ := h
  unfold pyPopAt at g
  split at g
  · rename_i a i
    rw [rp_ref] at r1
    subst r1
    obtain ⟨y, rfl, r3⟩ := r2.one
    rw [rp_int] at r3
    subst r3
    split at g
    · rename_i us e
      obtain ⟨xs, e2, rl⟩ := W.sim a _ e
      obtain ⟨g0, gl, g⟩ := g
      split at g
      · rename_i z ez
        obtain ⟨u, hu, ru⟩ := RpL.get rl ez
        have hk := (List.getElem?_eq_some_iff.mp ez).1
        have hs : seqIndex? i xs.length = some i.toNat := by
          rw [← rl.length]
          unfold seqIndex?
          rw [if_neg (show ¬i < 0 by omega)]
          dsimp only
          rw [if_pos (by rw [Bool.and_eq_true, decide_eq_true_iff, decide_eq_true_iff]; omega)]
        refine mt_popAt pins s σ H _ _ v _ Qv I rx rv ⟨a, xs, i, i.toNat, u, rfl, rfl, e2, by omega, by omega, hs, hu, ?_⟩
        have ev : Evo S H (sup S a (.lst (us.eraseIdx i.toNat))) (upd H a (.lst (xs.eraseIdx i.toNat))) := Evo.set e
        exact nq _ _ z (sup S a (.lst (us.eraseIdx i.toNat))) (W.put (W.nohid e) (fun n => by rw [e] at n; cases n) ⟨xs.eraseIdx i.toNat, upd_same, rl.del.mono ev⟩) (ru.mono ev) ev g
      · exact g.elim
    · exact g.elim
  · exact g.elim
theorem jl_lstRg {a : Expr} {ma : ME} {p q pos pos2 : Pos} (hc : X.calm = true) (hg : Gl X "list") (hm : X.mg "list" = none) (hg2 : Gl X "range") (hm2 : X.mg "range" = none) (ha : JE X E a ma)
    (na : starEach [.Call (.Name "range" q) [a] [] pos2] X.env = (false, eval (.Call (.Name "range" q) [a] [] pos2) X.env) :: starEach [] X.env := by rfl) (nb : starEach [a] X.env = (false, eval a X.env) :: starEach [] X.env := by rfl) :
    JL X E (.Call (.Name "list" p) [.Call (.Name "range" q) [a] [] pos2] [] pos) (fun σ S Q Ex => ma σ S (rngQ fun ws S1 => Q ws S1) Ex) := PE.weak (pe_listRg hc hg hm (prg_1 hg2 hm2 ha nb) na) fun σv H Qv h => by
  obtain ⟨P, S, σ, Q, Ex, W, r, m, nq, nx⟩ := h
  refine ⟨P, S, σ, _, Ex, W, r, m, fun v H1 w S1 W1 r1 e1 m1 => ?_, nx⟩
  unfold rngQ at m1
  split at m1
  · rename_i n
    rw [rp_int] at r1
    subst r1
    refine ⟨n, rfl, ⟨by omega, by omega, by omega, by omega, by omega⟩, fun D hD => ?_⟩
    have rl := rg_rp (K := X.K) (P := P) (S := S1) (H := H1) n.toNat 0
    rw [show ((List.range n.toNat).map fun (i : Nat) => V.int (0 + (i : Nat))) = rgV 0 n from by unfold rgV; rw [Int.sub_zero]] at rl
    exact nq D H1 _ (rgV 0 n) _ S1 W1 hD rfl rl e1 m1.2.2
  · exact m1.elim
end
end Dn

/-! Dn: behind the first token: str.replace of written texts, also in a comprehension's element. -/
namespace Dn
open PySem PySem.Spec PyProof.Rows L2
theorem thnT {α : Type} {t : Sem α} {Q Q' : α → Shared → Prop} {M : Model} {A : Around} {E : Value → Shared → Prop} {s : Shared} (h0 : 1 ≤ s.toks) (h : wpAny M A t Q E s) (k : ∀ a s', 1 ≤ s'.toks → Q a s' → Q' a s') : wpAny M A t Q' E s :=
  wpAny_mono (PySem.wpAny_toks_of h0 h) (fun a s' q => k a s' q.1 q.2) fun _ _ q => q.2
section
variable {X : Cx} {W : WX}
theorem lcT_core {pins : List (Addr × Obj)} {s : Shared} {σ : L2.St} {H : Hp} {Q : VK} {elt tg iter : Expr} {ifs : List Expr} {scope : Scope} {own : List (Str × Nat)} {pos p2 : Pos} {wi : TI} {g : TG} {tt : TT} {te : XK → TE} {Qf : Value → Shared → Prop}
    (hst : X.stack = X.env :: X.outer) (hfm : X.env.frame = some X.env.locals) (tk : Takes X W) (hc : X.calm = true) (hN : X.N.Nodup) (I : L2.Inv X pins σ H s) (hi : PI X tg iter wi) (ok : BlkOk X.N X.env.scope scope own)
    (hg : ∀ (s : Shared) (H : Hp) (C : Addr) (cl : List (Str × Addr)) (fp : List Addr) (xb : Value → Shared → Prop), PG (blkX X s H scope (compEnvC scope cl C X.env) fp xb) tg g)
    (ht : ∀ (s : Shared) (H : Hp) (C : Addr) (cl : List (Str × Addr)) (fp : List Addr) (xb : Value → Shared → Prop), PTs (blkX X s H scope (compEnvC scope cl C X.env) fp xb) ifs tt)
    (he : ∀ (s : Shared) (H : Hp) (C : Addr) (cl : List (Str × Addr)) (fp : List Addr) (xb : Value → Shared → Prop) (Eo : XK), Takes (blkX X s H scope (compEnvC scope cl C X.env) fp xb) (fun c d _ H' => Eo c d H') → PET (blkX X s H scope (compEnvC scope cl C X.env) fp xb) elt (te Eo))
    (hs : ∀ x, foldedSetIterable iter X.env x = pure x) (h0 : 1 ≤ s.toks)
    (h : tLcX wi g tt te (own.map (·.2)) W σ H Q)
    (fin : ∀ D C s' m H', L2.Inv X pins σ H' s' → Q (.ref D) H' → s'.heap.Ns C m → FpOk X pins H' C → ∀ h', Heap.SameBut C s'.heap h' → Qf (.ref D) { s' with heap := h' }) :
    wpAny (model X.prog X.w) X.A (comprehension (.ListComp elt [⟨tg, iter, ifs, 0⟩] scope pos) scope X.env p2 (newList []) false (eval iter X.env) none) Qf X.xe s := by
  have free : ∀ y ∈ scope.names, y.2 = .free → ∃ c, X.env.cells.lookup y.1 = some c := fun y hy e => (ok.free y hy e).elim (fun k => I.ok.has _ (.inl k)) (fun k => I.ok.has _ (.inr k))
  refine comprehension_at (use := none) rfl hs (closure_ok free) ok.kind (fun y hy e => by rw [ok.uniq y hy, e]) (thnT h0 (hi.run pins s σ H _ I h) fun xv s1 h0 hx => thnT h0 hx fun itv s2 h0 h2 => ?_)
  obtain ⟨it, fp, tn, J, H2, rfl, I2, T, st2, f2, q⟩ := h2
  refine wpAny_newObj_type (newEnv_comp ?_) (by show 0 ≤ sizeLine; decide)
  generalize hD : s2.heap.objs.size = D
  obtain ⟨V, ⟨m0, w0⟩, turn⟩ := q D (I2.hok.fresh (Nat.le_of_eq hD))
  have h0' := h0
  generalize hs3 : ({ s2 with heap := s2.heap.push { cls := .type "list", data := .seq ([] : List Value).toArray } } : Shared) = s3
  have h3 : s3.heap = s2.heap.push { cls := .type "list", data := .seq ([] : List Value).toArray } := by rw [← hs3]
  have I3 : L2.Inv X pins σ (upd H2 D (.lst [])) s3 := by
    rw [← hs3]
    exact I2.laid (t' := s2.toks) (fun b o e => Heap.get?_push_of_some _ e) (Nat.le_of_eq hD) ⟨Nat.zero_le _, [], 0, .nil, by rw [← hD]; exact Heap.get?_push_size _ rfl⟩
  have below : ∀ b ∈ fp, b < s2.heap.objs.size := fun b hb => by
    obtain ⟨o, e, _⟩ := T.obj _ _ st2 b hb
    exact Heap.lt_size e
  have f3 : ∀ b ∈ fp, FpOk X pins (upd H2 D (.lst [])) b ∧ b < s3.heap.objs.size := fun b hb => by
    have lt := below b hb
    exact ⟨⟨by rw [upd_ne (by rw [← hD]; exact Nat.ne_of_lt lt)]; exact (f2 b hb).1, (f2 b hb).2⟩, by rw [h3, Heap.size_push]; exact Nat.lt_succ_of_lt lt⟩
  have st3 : tn 0 s3.heap := T.keep _ _ _ st2 fun b _ o e => by rw [h3]; exact Heap.get?_push_of_some _ e
  have h03 : 1 ≤ s3.toks := by rw [← hs3]; exact h0'
  have I4 := block_start I3 ok hN f3
  have nfp : ∀ b ∈ fp, (upd H2 D (.lst [])) b = none := fun b hb => (f3 b hb).1.1
  have pg := hg s3 (upd H2 D (.lst [])) s3.heap.objs.size (cellsFrom (s3.heap.objs.size + 1) scope.names (cloFrom X.env.cells scope.names [])) fp
  have pt := ht s3 (upd H2 D (.lst [])) s3.heap.objs.size (cellsFrom (s3.heap.objs.size + 1) scope.names (cloFrom X.env.cells scope.names [])) fp
  have pe := he s3 (upd H2 D (.lst [])) s3.heap.objs.size (cellsFrom (s3.heap.objs.size + 1) scope.names (cloFrom X.env.cells scope.names [])) fp
  show codeAny _ _ (.compStart (.ListComp elt [⟨tg, iter, ifs, 0⟩] scope pos) 0 (.ref it) (.ref D) (compEnvC scope (cellsFrom (s3.heap.objs.size + 1) scope.names (cloFrom X.env.cells scope.names [])) s3.heap.objs.size X.env)) (compEnds (model X.prog X.w) X.A X.xe none Qf (.ref D) (compEnvC scope (cellsFrom (s3.heap.objs.size + 1) scope.names (cloFrom X.env.cells scope.names [])) s3.heap.objs.size X.env)) { s3 with heap := pushCells (s3.heap.push { cls := .type "dict", data := .dict #[] }) scope.names }
  have ceF : (compEnvC scope (cellsFrom (s3.heap.objs.size + 1) scope.names (cloFrom X.env.cells scope.names [])) s3.heap.objs.size X.env).frame = X.env.frame := rfl
  generalize hce : compEnvC scope (cellsFrom (s3.heap.objs.size + 1) scope.names (cloFrom X.env.cells scope.names [])) s3.heap.objs.size X.env = ce at I4 pg pt pe ceF ⊢
  have cL : ce.locals = s3.heap.objs.size := by subst hce; rfl
  generalize hH3 : upd H2 D (.lst []) = H3 at I3 I4 pg pt pe w0 nfp f3
  generalize hs4 : ({ s3 with heap := pushCells (s3.heap.push { cls := .type "dict", data := .dict #[] }) scope.names } : Shared) = s4 at I4 ⊢
  have h04 : 1 ≤ s4.toks := by rw [← hs4]; exact h03
  have st4 : tn 0 s4.heap := T.keep _ _ _ st3 fun b _ o e => by rw [← hs4]; exact pushCells_keeps _ _ _ _ (Heap.get?_push_of_some _ e)
  generalize hxb : notedBy (model X.prog X.w) X.A ce (fun e s' => compEnds (model X.prog X.w) X.A X.xe none Qf (.ref D) ce (.error e) s') = xb
  have tkb := takes_blk (scope := scope) hst hfm tk I3 f3 cL ceF (fun u s' k => k) hxb.symm
  have pg := pg xb
  have pt := pt xb
  have pe := pe xb _ tkb
  have stat : ∀ {σ' : L2.St} {H' : Hp} {s' : Shared}, L2.Inv (blkX X s3 H3 scope ce fp xb) [] σ' H' s' → (∀ b ∈ fp, H' b = none) → ∀ b ∈ fp, FpOk (blkX X s3 H3 scope ce fp xb) [] H' b := fun {σ' H' s'} I' hn b hb =>
    ⟨hn b hb, (I'.ok.exf b hb).1, I'.ok.exfs b hb, .inl hb, fun x c e => (I'.ok.exf b hb).2 x c e, fun p hp => by simp at hp⟩
  have loop : codeAny (model X.prog X.w) X.A (.compLoop (.ListComp elt [⟨tg, iter, ifs, 0⟩] scope pos) 0 (.ref it) (.ref D) ce) (compEnds (model X.prog X.w) X.A X.xe none Qf (.ref D) ce) s4 := by
    have I4t : L2.Inv (blkX X s3 H3 scope ce fp xb) [] (wipe σ (own.map (·.2))) H3 s4 := I4.toTry xb
    refine compLoop_any (fun n s' => 1 ≤ s'.toks ∧ ∃ i H', L2.Inv (blkX X s3 H3 scope ce fp xb) [] (wipe σ (own.map (·.2))) H' s' ∧ tn i s'.heap ∧ (∀ b ∈ fp, H' b = none) ∧ V i n H') ?_ m0 ⟨h04, 0, H3, I4t, st4, nfp, w0⟩
    rintro n s5 ⟨h05, i, H5, I5, st5, n5, w5⟩
    rw [hxb]
    rcases turn i n H5 w5 with ⟨stop, qq⟩ | ⟨go, Nx, hNx, step⟩
    · refine thn (T.done (blkX X s3 H3 scope ce fp xb) rfl rfl rfl hc i [] s5 _ H5 xb I5 (stat I5 n5) st5 stop) fun r s6 ⟨hr, I6⟩ => ?_
      subst hr
      have I7 : L2.Inv X pins σ H5 s6 := I3.call' (ch := fp) I6.os I6.base I6.hok I6.bare fun b hb => ⟨(f3 b hb).1.2.2.2.1, (f3 b hb).1.2.1, (f3 b hb).1.2.2.2.2.1, (f3 b hb).1.2.2.2.2.2⟩
      have nC : H5 ce.locals = none := I6.free
      obtain ⟨m, hn, _⟩ := I6.loc
      have hn : s6.heap.Ns ce.locals m := hn
      exact ⟨m, hn, fun h' sb => fin D ce.locals s6 m H5 I7 qq hn (by rw [cL] at nC ⊢; exact I3.fpOk (Nat.le_refl _) nC) h' sb⟩
    · refine thnT h05 (T.item (blkX X s3 H3 scope ce fp xb) rfl rfl rfl hc i [] s5 _ H5 xb I5 (stat I5 n5) st5 go) fun r s6 h06 ⟨u, hr, h6⟩ => ?_
      subst hr
      refine thnT h06 h6 fun _ s7 h07 ⟨x, H7, I7, r7, y7, st7, n7⟩ => ?_
      have I7' := I7.pinned (stat I7 n7) (T.obj _ _ st7)
      refine thnT h07 (pg.run _ s7 _ H7 x u _ I7' r7 (step x H7 y7)) fun _ s8 h08 ⟨σ8, H8, I8, hw8, q8⟩ => ?_
      refine thnT h08 (pt.run _ s8 σ8 H8 _ I8 q8) fun b s9 h09 ⟨H9, I9, q9⟩ => ?_
      have next : ∀ {s' : Shared} {H' : Hp}, L2.Inv (blkX X s3 H3 scope ce fp xb) ([] ++ pinsAt fp s7.heap) σ8 H' s' → Nx H' → 1 ≤ s'.toks → ∃ m, m < n ∧ 1 ≤ s'.toks ∧ ∃ i H', L2.Inv (blkX X s3 H3 scope ce fp xb) [] (wipe σ (own.map (·.2))) H' s' ∧ tn i s'.heap ∧ (∀ b ∈ fp, H' b = none) ∧ V i m H' := fun {s' H'} I' nx ht => by
        obtain ⟨k, hk, w'⟩ := hNx H' nx
        have pn : ∀ b ∈ fp, ∀ o, s7.heap.get? b = some o → s'.heap.get? b = some o ∧ H' b = none := fun b hb o e =>
          have z := I'.pin (b, o) (List.mem_append_right _ (List.mem_append_right _ (mem_pinsAt hb e)))
          ⟨z.1, z.2.1⟩
        refine ⟨k, hk, ht, i + 1, H', (I'.unpinned (pins := [])).weak (by rw [← hw8, wipe_length]) (fun j v e => (wipe_some (hw8 ▸ e)).1), T.keep _ _ _ st7 fun b hb o e => (pn b hb o e).1, fun b hb => ?_, w'⟩
        obtain ⟨o, e, _⟩ := T.obj _ _ st7 b hb
        exact (pn b hb o e).2
      cases b with
      | false =>
        simp only [Bool.false_eq_true, if_false] at q9 ⊢
        exact next I9 q9 h09
      | true =>
        simp only [if_true] at q9 ⊢
        refine thnT h09 (pe _ s9 σ8 H9 _ h09 I9 q9) fun z s10 h10 ⟨yv, H10, I10, r10, acc, hD10, hz10, nx⟩ => ?_
        exact thnT h10 (app_ok (X := blkX X s3 H3 scope ce fp xb) (Q := fun _ s11 => ∃ H', H' = upd H10 D (.lst (acc ++ [yv])) ∧ L2.Inv (blkX X s3 H3 scope ce fp xb) ([] ++ pinsAt fp s7.heap) σ8 H' s11) I10 hD10 hz10 r10 fun s11 I11 => ⟨_, rfl, I11⟩) fun _ s11 h11 ⟨H', eH, I11⟩ => next I11 (by rw [eH]; exact nx) h11
  exact codeAny_compStart_list loop (T.self X.A 0 _ _ _ st4 loop)
theorem pet_lcX {elt tg iter : Expr} {ifs : List Expr} {scope : Scope} {own : List (Str × Nat)} {pos : Pos} {wi : TI} {g : TG} {tt : TT} {te : XK → TE} (hst : X.stack = X.env :: X.outer) (hfm : X.env.frame = some X.env.locals) (tk : Takes X W) (hc : X.calm = true) (hN : X.N.Nodup) (hi : PI X tg iter wi) (ok : BlkOk X.N X.env.scope scope own)
    (hg : ∀ (s : Shared) (H : Hp) (C : Addr) (cl : List (Str × Addr)) (fp : List Addr) (xb : Value → Shared → Prop), PG (blkX X s H scope (compEnvC scope cl C X.env) fp xb) tg g)
    (ht : ∀ (s : Shared) (H : Hp) (C : Addr) (cl : List (Str × Addr)) (fp : List Addr) (xb : Value → Shared → Prop), PTs (blkX X s H scope (compEnvC scope cl C X.env) fp xb) ifs tt)
    (he : ∀ (s : Shared) (H : Hp) (C : Addr) (cl : List (Str × Addr)) (fp : List Addr) (xb : Value → Shared → Prop) (Eo : XK), Takes (blkX X s H scope (compEnvC scope cl C X.env) fp xb) (fun c d _ H' => Eo c d H') → PET (blkX X s H scope (compEnvC scope cl C X.env) fp xb) elt (te Eo))
    (hs : ∀ x, foldedSetIterable iter X.env x = pure x := by intro _; rfl) :
    PET X (.ListComp elt [⟨tg, iter, ifs, 0⟩] scope pos) (tLcX wi g tt te (own.map (·.2)) W) := by
  intro pins s σ H Q h0 I h
  rw [eval_ListComp]
  refine lcT_core hst hfm tk hc hN I hi ok hg ht he hs h0 h fun D C s' m H' I' q hn f h'' sb => ?_
  obtain ⟨f0, f1, f2, f3, f4, f5⟩ := f
  exact ⟨.ref D, H', I'.turned (t' := s'.toks) (fun b o hb e => (sb.2 b hb).trans e) f0 f1 f3 f4 f5, rfl, q⟩
end
/-! ### as predicate transformers -/
def JET (X : Cx) (E : WX) (e : Expr) (m : ME) : Prop := PET X e (rdE X.K E m)
def JLT (X : Cx) (E : WX) (e : Expr) (m : ML) : Prop := PET X e (rdL X.K E m)
def JST (X : Cx) (E : WX) (s : Stmt) (m : MS) : Prop := PST X s (rdS X.K E m)
def JSsT (X : Cx) (E : WX) (s : List Stmt) (m : MS) : Prop := PSsT X s (rdS X.K E m)
section
variable {X : Cx} {E : WX}
theorem PET.weak {e : Expr} {t t' : TE} (h : PET X e t) (i : ∀ σ H Q, t' σ H Q → t σ H Q) : PET X e t' := fun pins s σ H Q h0 I q => h pins s σ H Q h0 I (i σ H Q q)
theorem PST.weak {e : Stmt} {t t' : TS} (h : PST X e t) (i : ∀ σ H D, t' D σ H → t D σ H) : PST X e t' := fun pins s σ H D h0 I q => h pins s σ H D h0 I (i σ H D q)
theorem PSsT.weak {e : List Stmt} {t t' : TS} (h : PSsT X e t) (i : ∀ σ H D, t' D σ H → t D σ H) : PSsT X e t' := fun pins s σ H D h0 I q => h pins s σ H D h0 I (i σ H D q)
theorem jst_of {st : Stmt} {m : MS} (h : JS X E st m) : JST X E st m := PST.of h
theorem jsst_of {st : List Stmt} {m : MS} (h : JSs X E st m) : JSsT X E st m := PSsT.of h
theorem jsst_cons {st : Stmt} {rest : List Stmt} {m1 m2 : MS} (h1 : JST X E st m1) (h2 : JSsT X E rest m2) : JSsT X E (st :: rest) (mSeq m1 m2) := PSsT.weak (psst_cons h1 h2) fun σv H D q => by
  obtain ⟨P, S, σ, Dw, W, r, m, d⟩ := q
  exact ⟨P, S, σ, _, W, r, m, fun σv' H' σ' S' W' r' e' q' => ⟨P, S', σ', Dw, W', r', q', d.after e'⟩, d.rt, d.bk, d.ct, d.ex⟩
theorem jsst_one {st : Stmt} {m : MS} (h1 : JST X E st m) : JSsT X E [st] (mSeq m mNext) := jsst_cons h1 (jsst_of jss_nil)
theorem jst_ret {e : Expr} {m : ME} {pos} (h : JET X E e m) : JST X E (.Return (some e) pos) (mRet m) := PST.weak (CwR.pst_ret h) fun σv H D q => by
  obtain ⟨P, S, σ, Dw, W, r, m, d⟩ := q
  exact ⟨P, S, σ, _, _, W, r, m, d.rt, d.ex.at r⟩
theorem jst_if {c : Expr} {a b : List Stmt} {mt : MT} {m1 m2 : MS} {pos} (hc : JT X E c mt) (h1 : JSsT X E a m1) (h2 : JSsT X E b m2) : JST X E (.If c a b pos) (mIfS mt m1 m2) := PST.weak (CwR.pst_if hc h1 h2) fun σv H D q => by
  obtain ⟨P, S, σ, Dw, W, r, m, d⟩ := q
  refine ⟨P, S, σ, _, _, W, r, m, fun b H1 S1 W1 e1 m1 => ?_, d.ex.at r⟩
  cases b with
  | true => exact ⟨P, S1, σ, Dw, W1, r.mono e1, m1, d.after e1⟩
  | false => exact ⟨P, S1, σ, Dw, W1, r.mono e1, m1, d.after e1⟩
def replQ (y z : Str) (Q : Dt → Store → Prop) (w : Dt) (S : Store) : Prop := match w with
  | .str x => x.length + (x.length + 1) * z.length ≤ 16777216 ∧ Q (.str (Txt.replace x y z)) S
  | _ => False
def mRepl (y z : Str) (m : ME) : ME := fun σ S Q Ex => m σ S (replQ y z Q) Ex
theorem jet_repl {o : Expr} {m : ME} {y z : Str} {j k : Nat} {c0 c1 apos pos : Pos} (ho : JE X E o m) (hyz : (y == z) = false := by decide)
    (hst : starEach [.Constant (.str y) j c0, .Constant (.str z) k c1] X.env = [(false, eval (.Constant (.str y) j c0) X.env), (false, eval (.Constant (.str z) k c1) X.env)] := by rfl)
    (hbase : attributeBase o "replace" X.env (eval o X.env) = eval o X.env := by rfl) (hline : (apos.endLine == pos.line) = true := by rfl) :
    JET X E (.Call (.Attribute o "replace" apos) [.Constant (.str y) j c0, .Constant (.str z) k c1] [] pos) (mRepl y z m) := PET.weak (CwR.pet_replC ho hyz hst hbase hline) fun σv H Qv q => by
  obtain ⟨P, S, σ, Q, Ex, W, r, m, nq, nx⟩ := q
  refine ⟨P, S, σ, _, Ex, W, r, m, fun v H1 w S1 W1 r1 e1 q1 => ?_, nx⟩
  unfold replQ at q1
  split at q1
  · rw [rp_str] at r1
    subst r1
    exact ⟨_, rfl, q1.1, nq _ H1 _ S1 W1 rpStr e1 q1.2⟩
  · exact q1.elim
theorem jlt_compX {elt tg iter : Expr} {ifs : List Expr} {scope : Scope} {own : List (Str × Nat)} {pos : Pos} {mi : MI} {g : TG} {b : BW} {mt : MT} {me : ME} (hst : X.stack = X.env :: X.outer) (hfm : X.env.frame = some X.env.locals) (tk : Takes X E) (hc : X.calm = true) (hN : X.N.Nodup) (hi : JI X E tg iter mi) (ok : BlkOk X.N X.env.scope scope own) (hb : Binds1 X.K g (own.map (·.2)) b)
    (hg : ∀ (s : Shared) (H : Hp) (C : Addr) (cl : List (Str × Addr)) (fp : List Addr) (xb : Value → Shared → Prop), PG (blkX X s H scope (compEnvC scope cl C X.env) fp xb) tg g)
    (ht : ∀ (s : Shared) (H : Hp) (C : Addr) (cl : List (Str × Addr)) (fp : List Addr) (xb : Value → Shared → Prop), JTs (blkX X s H scope (compEnvC scope cl C X.env) fp xb) (fun _ _ _ _ => False) ifs mt)
    (he : ∀ (s : Shared) (H : Hp) (C : Addr) (cl : List (Str × Addr)) (fp : List Addr) (xb : Value → Shared → Prop) (Eo : XK), Takes (blkX X s H scope (compEnvC scope cl C X.env) fp xb) (fun c d _ H' => Eo c d H') → JET (blkX X s H scope (compEnvC scope cl C X.env) fp xb) (fun c d _ H' => Eo c d H') elt me)
    (hs : ∀ x, foldedSetIterable iter X.env x = pure x := by intro _; rfl) : JLT X E (.ListComp elt [⟨tg, iter, ifs, 0⟩] scope pos) (mCompX mi b mt me (own.map (·.2))) :=
  PET.weak (pet_lcX (W := E) (tt := rdT X.K (fun _ _ _ _ => False) mt) (te := fun Eo => rdE X.K (fun c d _ H' => Eo c d H') me) hst hfm tk hc hN hi ok hg ht he hs) fun _ _ _ q => comp_weakX hb q
theorem jet_frz {e : Expr} {m : ML} (h : JLT X E e m) : JET X E e (mFrz m) := PET.weak h fun σv H Qv q => by
  obtain ⟨P, S, σ, Q, Ex, W, r, m, nq, nx⟩ := q
  refine ⟨P, S, σ, _, Ex, W, r, m, fun p H' H1 xs ws S' W' hp e1 rl ev q => ?_, nx⟩
  subst e1
  refine nq (.ref p) _ (.lst ws) S' (W'.new hp) ?_ (ev.trans (Evo.new hp)) q
  unfold Rp
  exact ⟨p, xs, rfl, Fz.new W' hp, rl.mono (Evo.new hp)⟩
/-- T(e), one argument -/
theorem jet_callT1 {x : Str} {T : String} {e : Expr} {g : OpN} {m : ME} {p pos : Pos} (hc : CallR X (.type T) (rdN X.K g)) (hg : Gl X x) (hm : X.mg x = none) (hv : bootBuiltins x = some (.type T)) (ha : JET X E e m) (hn : x ≠ "__name__" := by decide) (hdb : (x == ("__debug__" : Str)) = false := by decide)
    (he : starEach [e] X.env = (false, eval e X.env) :: starEach [] X.env := by rfl) (hpl : (backTo pos (starEach [] X.env)).any (·.1) = false := by rfl) :
    JET X E (.Call (.Name x p) [e] [] pos) (mFn g (mCons m mNil)) := by
  intro pins s σv H Qv h0 I h
  refine wpAny_Call_Name_kw (ld_blt I hg hm hv ?_ hn hdb)
  obtain ⟨P, S, σ, Q, Ex, W, r, m, nq, nx⟩ := h
  refine callWith_type1 (thn (pat_cons ha pat_nil he pos pins s σv H _ h0 I (?_ : tCons (rdE X.K E _) tNil σv H (fun vs H1 => rdN X.K g vs H1 Qv))) fun us s1 ⟨vs, H1, I1, r1, q1⟩ => hc pins s1 σv H1 vs us Qv I1 r1 q1) he hpl
  exact ⟨P, S, σ, _, Ex, W, r, m, fun v H1 w S1 W1 r1 e1 m1 => ⟨P, S1, [w], Q, W1, RpL.cons r1 RpL.nil, m1, nq.after e1⟩, nx⟩
end
/-- a def that keeps its promise, a token being out as it begins -/
theorem cal_ofT {P : Program} {w : World} {K : Frg} {mg : Str → Option Value} {base : Heap} {x y : Str} {st : Stmt} {N ps : List Str} {k n : Nat} (D : Dfn2 K mg x y st ps) (Sc : FnScope N ps (defScope st)) (G : Fw) (hn : ps.length = n) (hcell : ∀ y ∈ (defScope st).names, y.2 ≠ .cell) (h1 : 1 ≤ ps.length)
    (hbody : ∀ (f : Addr) (cdv : Value) (A : Around) (outer : List PySem.Env) (s : Shared) (H : Hp) (E : XK), Room k (A.deeper (envOfC y (defScope st) s.heap.objs.size f cdv)) →
      ∃ m, JSsT (cxOf (L2.CX P w) P w K mg base N y (defScope st) f cdv A outer s H E) (fun c d _ H' => E c d H') (defBody st) m ∧
        ∀ (ws : List Dt) (S : Store) (Q : Dt → Store → Prop) (Ex : Exn → Store → Prop), ws.length = n → G ws S Q Ex →
          m ⟨fun _ S' => clo Q .non S', clo Q, fun _ _ => False, fun _ _ => False, fun x _ S' => clX Ex x S'⟩ (startW N.length ws) S) : Cal P w K mg base x (k + 1) ps n G := by
  obtain ⟨f, fd, a, F, b⟩ := D
  refine ⟨f, fd, a, F.kp, b, ?_⟩
  obtain ⟨oc, od, kV, doc, pm, an, cdv, ct, osl, rfl, lk, hcd⟩ := F.ex
  refine fn_ofT lk hcd Sc hcell h1 (fun vs H Q E h => by rw [hn]; exact h.1) (fun A outer s H vs Q E hr h => ?_)
  obtain ⟨m, hm, hg⟩ := hbody f cdv A outer s H E hr
  obtain ⟨hl, P0, S, ws, Qw, Ew, W, rl, g, nq, nx⟩ := h
  refine ⟨_, hm, P0, S, startW N.length ws, _, W, start_rp rl, hg ws S Qw Ew (by rw [rl.length]; exact hl) g, ⟨fun σv' H' σ' S' W' r' e' q' => ?_, nq.clo, fun _ _ _ _ _ _ _ q => q.elim, fun _ _ _ _ _ _ _ q => q.elim, fun c d σv' H' x σ' S' W' rx r' e' q' => nx.clo c d H' x S' W' rx e' q'⟩⟩
  exact nq.clo .non H' .non S' W' rpNon e' q'
/-- a comprehension whose element may raise, but does not: one item each -/
theorem compX_all {α : Type} {b : BW} {me : ME} {σ : Env} {vs : List Nat} {gd : Store → Prop} {Q : List Dt → Store → Prop} {Ex : Exn → Store → Prop} {S : Store} (F : α → Dt) (f : α → Dt) (xs : List α) (hg : gd S)
    (h : ∀ x ∈ xs, ∃ σ1, b (F x) (wipeW σ vs) = some σ1 ∧ ∀ k : Dt → Store → Prop, k (f x) S → me σ1 S k Ex) (hl : xs.length ≤ sizeLine) (q : Q (xs.map f) S) : compWX b mYes me σ vs gd Q Ex (xs.map F) [] S := by
  refine compX_inv F (fun i acc S' => S' = S ∧ acc = (xs.take i).map f) xs 0 [] S ?_ ⟨rfl, by rw [List.take_zero]; rfl⟩ ?_
  · rintro j x _ hx acc S' ⟨rfl, rfl⟩
    rw [Nat.sub_zero] at hx
    obtain ⟨σ1, e, k⟩ := h x (List.mem_of_getElem? hx)
    refine ⟨hg, σ1, e, fun N hN => ?_⟩
    refine k _ ⟨?_, hN _ _ ⟨rfl, ?_⟩⟩
    · have := (List.getElem?_eq_some_iff.mp hx).1
      rw [List.length_map, List.length_take]
      omega
    · rw [take_succ hx, List.map_append]
      rfl
  · rintro acc S' ⟨rfl, rfl⟩
    rw [Nat.zero_add, List.take_length]
    exact ⟨hg, q⟩
theorem tyNs_all {p : String → Prop} (h1 : p "NoneType") (h2 : p "bool") (h3 : p "int") (h4 : p "str") (h5 : p "tuple") (h6 : p "list") (h7 : p "dict") : ∀ t ∈ tyNs, p t := by
  intro t ht
  unfold tyNs at ht
  simp only [List.mem_cons, List.not_mem_nil, or_false] at ht
  rcases ht with rfl | rfl | rfl | rfl | rfl | rfl | rfl <;> assumption
end Dn

namespace Lw
open PySem PySem.Spec PyProof.Rows L2 Dn
/-! ### the text -/
def topS (i : Nat) : Stmt := PySem.Challenge.pw_allbrought_k01_floors_judged.main.body.getD i (.Pass ⟨0, 0, 0, 0⟩)
abbrev s__law_hand : Stmt := topS 27
abbrev N__law_hand : List Str := ["_law_script"]
theorem sc__law_hand : FnScope N__law_hand ["_law_script"] (defScope s__law_hand) := ⟨rfl, rfl, rfl, by decide +kernel, rfl, by decide +kernel, by decide +kernel⟩
abbrev s__law_take : Stmt := topS 28
abbrev N__law_take : List Str := ["_law_hand_here", "_law_many", "_law_number", "_law_cell", "_law_found"]
theorem sc__law_take : FnScope N__law_take ["_law_hand_here", "_law_many"] (defScope s__law_take) := ⟨rfl, rfl, rfl, by decide +kernel, rfl, by decide +kernel, by decide +kernel⟩
abbrev s__law_pick : Stmt := topS 29
abbrev N__law_pick : List Str := ["_law_hand_here", "_law_things"]
theorem sc__law_pick : FnScope N__law_pick ["_law_hand_here", "_law_things"] (defScope s__law_pick) := ⟨rfl, rfl, rfl, by decide +kernel, rfl, by decide +kernel, by decide +kernel⟩
abbrev s__law_signs : Stmt := topS 34
abbrev N__law_signs : List Str := ["_law_hand_here"]
theorem sc__law_signs : FnScope N__law_signs ["_law_hand_here"] (defScope s__law_signs) := ⟨rfl, rfl, rfl, by decide +kernel, rfl, by decide +kernel, by decide +kernel⟩
abbrev s__law_rows : Stmt := topS 35
abbrev N__law_rows : List Str := ["_law_hand_here", "_law_most", "_law_high", "_law_wide", "_law_signs_here", "_law_rows_here", "_law_rests", "_law_k", "_law_row", "_law_j", "_law_sign"]
theorem sc__law_rows : FnScope N__law_rows ["_law_hand_here", "_law_most"] (defScope s__law_rows) := ⟨rfl, rfl, rfl, by decide +kernel, rfl, by decide +kernel, by decide +kernel⟩
abbrev s_all_spots : Stmt := topS 18
abbrev N_all_spots : List Str := ["rows", "found", "row", "signs", "column", "sign"]
theorem sc_all_spots : FnScope N_all_spots ["rows"] (defScope s_all_spots) := ⟨rfl, rfl, rfl, by decide +kernel, rfl, by decide +kernel, by decide +kernel⟩
abbrev s_all_ties : Stmt := topS 19
abbrev N_all_ties : List Str := ["spots", "numbers", "found", "row", "column", "around", "cell", "spot"]
theorem sc_all_ties : FnScope N_all_ties ["spots"] (defScope s_all_ties) := ⟨rfl, rfl, rfl, by decide +kernel, rfl, by decide +kernel, by decide +kernel⟩
abbrev s_spots_of : Stmt := topS 20
abbrev N_spots_of : List Str := ["rows", "spots", "sign", "cell", "row", "column"]
theorem sc_spots_of : FnScope N_spots_of ["rows", "spots", "sign"] (defScope s_spots_of) := ⟨rfl, rfl, rfl, by decide +kernel, rfl, by decide +kernel, by decide +kernel⟩
abbrev s_is_sized : Stmt := topS 8
abbrev N_is_sized : List Str := ["thing", "least", "most"]
theorem sc_is_sized : FnScope N_is_sized ["thing", "least", "most"] (defScope s_is_sized) := ⟨rfl, rfl, rfl, by decide +kernel, rfl, by decide +kernel, by decide +kernel⟩
abbrev s_is_row : Stmt := topS 16
abbrev N_is_row : List Str := ["thing", "sign"]
theorem sc_is_row : FnScope N_is_row ["thing"] (defScope s_is_row) := ⟨rfl, rfl, rfl, by decide +kernel, rfl, by decide +kernel, by decide +kernel⟩
abbrev s_Floor_init : Stmt := match topS 17 with | .ClassDef _ _ _ b _ _ _ _ _ _ _ => b.getD 0 (.Pass ⟨0, 0, 0, 0⟩) | z => z
abbrev N_Floor_init : List Str := ["self", "rows", "index", "row"]
theorem sc_Floor_init : FnScope N_Floor_init ["self", "rows"] (defScope s_Floor_init) := ⟨rfl, rfl, rfl, by decide +kernel, rfl, by decide +kernel, by decide +kernel⟩
abbrev s__law_cells : Stmt := topS 37
abbrev N__law_cells : List Str := ["_law_rows_here", "_law_found", "_law_row", "_law_column"]
theorem sc__law_cells : FnScope N__law_cells ["_law_rows_here"] (defScope s__law_cells) := ⟨rfl, rfl, rfl, by decide +kernel, rfl, by decide +kernel, by decide +kernel⟩
abbrev s__law_near : Stmt := topS 38
abbrev N__law_near : List Str := ["_law_spots", "_law_cell", "_law_row", "_law_column", "_law_found", "_law_other"]
theorem sc__law_near : FnScope N__law_near ["_law_spots", "_law_cell"] (defScope s__law_near) := ⟨rfl, rfl, rfl, by decide +kernel, rfl, by decide +kernel, by decide +kernel⟩
abbrev s__law_of_sign : Stmt := topS 39
abbrev N__law_of_sign : List Str := ["_law_rows_here", "_law_spots", "_law_sign", "_law_cell"]
theorem sc__law_of_sign : FnScope N__law_of_sign ["_law_rows_here", "_law_spots", "_law_sign"] (defScope s__law_of_sign) := ⟨rfl, rfl, rfl, by decide +kernel, rfl, by decide +kernel, by decide +kernel⟩
abbrev s__law_plan_of : Stmt := topS 40
abbrev N__law_plan_of : List Str := ["_law_rows_here", "_law_spots", "_law_near_here", "_law_cell"]
theorem sc__law_plan_of : FnScope N__law_plan_of ["_law_rows_here"] (defScope s__law_plan_of) := ⟨rfl, rfl, rfl, by decide +kernel, rfl, by decide +kernel, by decide +kernel⟩
abbrev s__law_is_integer : Stmt := topS 30
abbrev N__law_is_integer : List Str := ["_law_thing"]
theorem sc__law_is_integer : FnScope N__law_is_integer ["_law_thing"] (defScope s__law_is_integer) := ⟨rfl, rfl, rfl, by decide +kernel, rfl, by decide +kernel, by decide +kernel⟩
abbrev s__law_same : Stmt := topS 32
abbrev N__law_same : List Str := ["_law_actual", "_law_due", "_law_one", "_law_other"]
theorem sc__law_same : FnScope N__law_same ["_law_actual", "_law_due"] (defScope s__law_same) := ⟨rfl, rfl, rfl, by decide +kernel, rfl, by decide +kernel, by decide +kernel⟩
abbrev s__law_odd : Stmt := topS 33
abbrev N__law_odd : List Str := ["_law_hand_here", "_law_turn"]
theorem sc__law_odd : FnScope N__law_odd ["_law_hand_here"] (defScope s__law_odd) := ⟨rfl, rfl, rfl, by decide +kernel, rfl, by decide +kernel, by decide +kernel⟩
abbrev s__law_spoilt : Stmt := topS 41
abbrev N__law_spoilt : List Str := ["_law_hand_here", "_law_rows_here", "_law_turn", "_law_at", "_law_row", "_law_place", "_law_sign", "_law_some"]
theorem sc__law_spoilt : FnScope N__law_spoilt ["_law_hand_here", "_law_rows_here"] (defScope s__law_spoilt) := ⟨rfl, rfl, rfl, by decide +kernel, rfl, by decide +kernel, by decide +kernel⟩
abbrev s__law_bad_rows : Stmt := topS 36
abbrev N__law_bad_rows : List Str := ["_law_thing", "_law_k", "_law_many", "_law_sign"]
theorem sc__law_bad_rows : FnScope N__law_bad_rows ["_law_thing"] (defScope s__law_bad_rows) := ⟨rfl, rfl, rfl, by decide +kernel, rfl, by decide +kernel, by decide +kernel⟩
abbrev s__law_is_within : Stmt := topS 31
abbrev N__law_is_within : List Str := ["_law_thing", "_law_least", "_law_most"]
theorem sc__law_is_within : FnScope N__law_is_within ["_law_thing", "_law_least", "_law_most"] (defScope s__law_is_within) := ⟨rfl, rfl, rfl, by decide +kernel, rfl, by decide +kernel, by decide +kernel⟩
abbrev s_stations : Stmt := topS 25
abbrev N_stations : List Str := ["floor"]
theorem sc_stations : FnScope N_stations ["floor"] (defScope s_stations) := ⟨rfl, rfl, rfl, by decide +kernel, rfl, by decide +kernel, by decide +kernel⟩
abbrev s__law_made : Stmt := topS 42
abbrev N__law_made : List Str := ["_law_rows_here", "error"]
theorem sc__law_made : FnScope N__law_made ["_law_rows_here"] (defScope s__law_made) := ⟨rfl, rfl, rfl, by decide +kernel, rfl, by decide +kernel, by decide +kernel⟩
abbrev s_Floor_eq : Stmt := match topS 17 with | .ClassDef _ _ _ b _ _ _ _ _ _ _ => b.getD 1 (.Pass ⟨0, 0, 0, 0⟩) | z => z
abbrev N_Floor_eq : List Str := ["self", "other"]
theorem sc_Floor_eq : FnScope N_Floor_eq ["self", "other"] (defScope s_Floor_eq) := ⟨rfl, rfl, rfl, by decide +kernel, rfl, by decide +kernel, by decide +kernel⟩
abbrev s_cells : Stmt := topS 21
abbrev N_cells : List Str := ["floor"]
theorem sc_cells : FnScope N_cells ["floor"] (defScope s_cells) := ⟨rfl, rfl, rfl, by decide +kernel, rfl, by decide +kernel, by decide +kernel⟩
abbrev s_homes : Stmt := topS 24
abbrev N_homes : List Str := ["floor"]
theorem sc_homes : FnScope N_homes ["floor"] (defScope s_homes) := ⟨rfl, rfl, rfl, by decide +kernel, rfl, by decide +kernel, by decide +kernel⟩
abbrev s_is_integer : Stmt := topS 5
abbrev N_is_integer : List Str := ["thing"]
theorem sc_is_integer : FnScope N_is_integer ["thing"] (defScope s_is_integer) := ⟨rfl, rfl, rfl, by decide +kernel, rfl, by decide +kernel, by decide +kernel⟩
abbrev s_is_within : Stmt := topS 6
abbrev N_is_within : List Str := ["thing", "least", "most"]
theorem sc_is_within : FnScope N_is_within ["thing", "least", "most"] (defScope s_is_within) := ⟨rfl, rfl, rfl, by decide +kernel, rfl, by decide +kernel, by decide +kernel⟩
abbrev s_is_below : Stmt := topS 7
abbrev N_is_below : List Str := ["thing", "many"]
theorem sc_is_below : FnScope N_is_below ["thing", "many"] (defScope s_is_below) := ⟨rfl, rfl, rfl, by decide +kernel, rfl, by decide +kernel, by decide +kernel⟩
abbrev s_is_cell : Stmt := topS 22
abbrev N_is_cell : List Str := ["floor", "thing"]
theorem sc_is_cell : FnScope N_is_cell ["floor", "thing"] (defScope s_is_cell) := ⟨rfl, rfl, rfl, by decide +kernel, rfl, by decide +kernel, by decide +kernel⟩
abbrev s_neighbours : Stmt := topS 23
abbrev N_neighbours : List Str := ["floor", "cell"]
theorem sc_neighbours : FnScope N_neighbours ["floor", "cell"] (defScope s_neighbours) := ⟨rfl, rfl, rfl, by decide +kernel, rfl, by decide +kernel, by decide +kernel⟩
abbrev s__law_near_told : Stmt := topS 43
abbrev N__law_near_told : List Str := ["_law_floor", "_law_cell"]
theorem sc__law_near_told : FnScope N__law_near_told ["_law_floor", "_law_cell"] (defScope s__law_near_told) := ⟨rfl, rfl, rfl, by decide +kernel, rfl, by decide +kernel, by decide +kernel⟩
abbrev s_law : Stmt := topS 44
abbrev N_law : List Str := ["_law_script", "_law_hand_here", "_law_rows_here", "_law_thing", "_law_floor", "_law_spots", "_law_near_here", "_law_rests", "_law_stops", "_law_k", "_law_bad", "_law_due", "_law_cell"]
theorem sc_law : FnScope N_law ["_law_script"] (defScope s_law) := ⟨rfl, rfl, rfl, by decide +kernel, rfl, by decide +kernel, by decide +kernel⟩
abbrev i_BadFloor : Stmt := match topS 2 with | .ClassDef _ _ _ b _ _ _ _ _ _ _ => b.getD 0 (.Pass ⟨0, 0, 0, 0⟩) | z => z
/-- what the walk asks of the top -/
structure Txt (P : Program) (w : World) (K : Frg) (mg : Str → Option Value) (base : Heap) (c_BadFloor c_NoCell c_Floor : Addr) : Prop where
  n_list : mg "list" = none
  n_int : mg "int" = none
  n_len : mg "len" = none
  n_tuple : mg "tuple" = none
  n_range : mg "range" = none
  n_enumerate : mg "enumerate" = none
  g_WALL : Gstr mg "WALL" "#"
  n_sorted : mg "sorted" = none
  n_isinstance : mg "isinstance" = none
  n_all : mg "all" = none
  g_FREE : Gstr mg "FREE" "."
  g_HOME : Gstr mg "HOME" "H"
  g_STATION : Gstr mg "STATION" "S"
  g_MOST_ROWS : Gint mg "MOST_ROWS" (12)
  n_str : mg "str" = none
  fd_Floor_spots : FldC K c_Floor "spots"
  fd_Floor_stops : FldC K c_Floor "stops"
  fd_Floor_rests : FldC K c_Floor "rests"
  fd_Floor_ties : FldC K c_Floor "ties"
  fd_Floor_rows : FldC K c_Floor "rows"
  n_sum : mg "sum" = none
  g_MOST_HOMES : Gint mg "MOST_HOMES" (6)
  x_BadFloor : Exc1 P w K mg base "BadFloor" "part" c_BadFloor
  n_abs : mg "abs" = none
  n_bool : mg "bool" = none
  n_zip : mg "zip" = none
  is_Floor : IsiC K c_Floor [(c_Floor, true)]
  gc_Floor : mg "Floor" = some (.ref c_Floor)
  x_NoCell : Exc0 K mg "NoCell" c_NoCell
  q_Floor : EqC K c_Floor
  m_BadFloor_BadFloor : PySem.W.exmOne K (.ref c_BadFloor) (.ref c_BadFloor) = some true
  m_NoCell_BadFloor : PySem.W.exmOne K (.ref c_NoCell) (.ref c_BadFloor) = some false
  m_BadFloor_NoCell : PySem.W.exmOne K (.ref c_BadFloor) (.ref c_NoCell) = some false
  m_NoCell_NoCell : PySem.W.exmOne K (.ref c_NoCell) (.ref c_NoCell) = some true
section
variable {P : Program} {w : World} {K : Frg} {mg : Str → Option Value} {base : Heap} {c_BadFloor c_NoCell c_Floor : Addr}
local macro_rules | `(tactic| walk_at "dn") => `(tactic| simp only [mSeq, mNext, mRet, mRetN, mIfS, mSet, mDrop, mBrk, mCnt, mVar, mC, mOp, mUn, mFn, mNil, mCons, mTup, mFrz, mRef, mLst, mTr, mAnd, mOr, mNot, mAndV, mOrV, mNotV, mIf, mCall, mSl, mPart, mNoPart, mMeth, mAsg, mgSub, mgName, mgCons, mgNil, mgTup, mAug, mFnL, mRaise, mExc0, mDict0, mSeqI, seqQ, mRng1, mRng2, mZip, mFor, mComp, mYes, mChain, mTry, mTst, wipeW, br_true, br_false,
  pyIsi, startW, List.map, List.length_cons, List.length_nil, List.replicate, List.getElem?_cons_succ, List.getElem?_cons_zero, List.cons_append, List.nil_append, List.set_cons_succ, List.set_cons_zero, truthW, Bool.not_true, Bool.not_false, if_true, if_false, ite_true, ite_false, true_and, and_true, reduceIte, reduceCtorEq, Nat.reduceAdd, Nat.reduceSub, Bool.false_eq_true, pyLt, pyLe, pyGt, pyGe, pyRel, pyAdd, pySub, pyMod, pyFdiv, pyPow, pyNeg, Dn.pyLen])
local macro_rules | `(tactic| walk_at "dh") => `(tactic| simp only [mSeq, mNext, mRet, mRetN, mIfS, mSet, mDrop, mBrk, mCnt, mVar, mC, mOp, mUn, mFn, mNil, mCons, mTup, mFrz, mRef, mLst, mTr, mAnd, mOr, mNot, mAndV, mOrV, mNotV, mIf, mCall, mSl, mPart, mNoPart, mMeth, mAsg, mgSub, mgName, mgCons, mgNil, mgTup, mAug, mFnL, mRaise, mExc0, mDict0, mSeqI, seqQ, mRng1, mRng2, mZip, mFor, mComp, mYes, mChain, mTry, mTst, wipeW, br_true, br_false,
  pyIsi, startW, List.map, List.length_cons, List.length_nil, List.replicate, List.getElem?_cons_succ, List.getElem?_cons_zero, List.cons_append, List.nil_append, List.set_cons_succ, List.set_cons_zero, truthW, Bool.not_true, Bool.not_false, if_true, if_false, ite_true, ite_false, true_and, and_true, reduceIte, reduceCtorEq, Nat.reduceAdd, Nat.reduceSub, Bool.false_eq_true, pyLt, pyLe, pyGt, pyGe, pyRel, pyAdd, pySub, pyMod, pyFdiv, pyPow, pyNeg, Dn.pyLen,
  Dn.pyIx, lsv, plv, sup_same, sup_sup, pySetItem, at_0, at_1, at_2, at_3, at_4, at_5, at_6, at_7, at_8, at_9, ix_1_0, ix_2_0, ix_2_1, ix_3_0, ix_3_1, ix_3_2, ix_4_0, ix_4_1, ix_4_2, ix_4_3, ix_5_0, ix_5_1, ix_5_2, ix_5_3, ix_5_4, ix_6_0, ix_6_1, ix_6_2, ix_6_3, ix_6_4, ix_6_5, Dn.pyInt, pyEq, pyMul, List.length_map])
local macro_rules | `(tactic| walk_at "dk") => `(tactic| simp only [mSeq, mNext, mRet, mRetN, mIfS, mSet, mDrop, mBrk, mCnt, mVar, mC, mOp, mUn, mFn, mNil, mCons, mTup, mFrz, mRef, mLst, mTr, mAnd, mOr, mNot, mAndV, mOrV, mNotV, mIf, mCall, mSl, mPart, mNoPart, mMeth, mAsg, mgSub, mgName, mgCons, mgNil, mgTup, mAug, mFnL, mRaise, mExc0, mDict0, mSeqI, seqQ, mRng1, mRng2, mZip, mFor, mComp, mYes, mChain, mTry, mTst, wipeW, br_true, br_false,
  pyIsi, startW, List.map, List.length_cons, List.length_nil, List.replicate, List.getElem?_cons_succ, List.getElem?_cons_zero, List.cons_append, List.nil_append, List.set_cons_succ, List.set_cons_zero, truthW, Bool.not_true, Bool.not_false, if_true, if_false, ite_true, ite_false, true_and, and_true, reduceIte, reduceCtorEq, Nat.reduceAdd, Nat.reduceSub, Bool.false_eq_true, pyLt, pyLe, pyGt, pyGe, pyRel, pyAdd, pySub, pyMod, pyFdiv, pyPow, pyNeg, Dn.pyLen,
  Dn.pyIx, lsv, plv, sup_same, sup_sup, pySetItem, tyN, kb_NoneType_int, kb_NoneType_bool, kb_NoneType_str, kb_NoneType_tuple, kb_NoneType_list, kb_NoneType_dict, kb_bool_int, kb_bool_bool, kb_bool_str, kb_bool_tuple, kb_bool_list, kb_bool_dict, kb_int_int, kb_int_bool, kb_int_str, kb_int_tuple, kb_int_list, kb_int_dict, kb_str_int, kb_str_bool, kb_str_str, kb_str_tuple, kb_str_list, kb_str_dict, kb_tuple_int, kb_tuple_bool, kb_tuple_str, kb_tuple_tuple, kb_tuple_list, kb_tuple_dict, kb_list_int, kb_list_bool, kb_list_str, kb_list_tuple, kb_list_list, kb_list_dict, kb_dict_int, kb_dict_bool, kb_dict_str, kb_dict_tuple, kb_dict_list, kb_dict_dict, isI, isB, isS, isT, isL, isNon, isBlW, pyIs, pyIsNot, pyNe, Bool.or_self, Bool.or_true, Bool.or_false, Bool.true_or, Bool.false_or, Bool.and_self, Bool.and_true, Bool.and_false, decide_true, decide_false, at_0, at_1, at_2, at_3, at_4, at_5, at_6, at_7, at_8, at_9, ix_1_0, ix_2_0, ix_2_1, ix_3_0, ix_3_1, ix_3_2, ix_4_0, ix_4_1, ix_4_2, ix_4_3, ix_5_0, ix_5_1, ix_5_2, ix_5_3, ix_5_4, ix_6_0, ix_6_1, ix_6_2, ix_6_3, ix_6_4, ix_6_5, Dn.pyInt, pyEq, pyMul, List.length_map])
local macro_rules | `(tactic| walk_at "nx") => `(tactic| (conv => whnf))
local macro_rules | `(tactic| walk_at "ny") => `(tactic| ((conv => whnf); repeat (refine And.intro (by first | exact Nat.le_of_ble_eq_true rfl | exact trivial | exact rfl | decide | exact .inl (by decide) | exact .inr (.inl (by decide)) | exact ⟨by decide, by decide⟩ | omega) ?_; conv => whnf)))
theorem pyEq_of {x y : Dt} {S : Store} {Q : Dt → Store → Prop} (h1 : fl 60 x = true) (h2 : fl 60 y = true) (h : Q (.bl (eqD x y)) S) : pyEq x y S Q := by
  unfold pyEq
  split
  · rename_i i j; rw [show eqD (.int i) (.int j) = decide (i = j) from rfl] at h; exact h
  · rename_i i j; rw [show eqD (.bl i) (.bl j) = (i == j) from rfl] at h; exact h
  · rename_i i j; rw [show eqD (.str i) (.str j) = decide (i = j) from rfl] at h; exact h
  · exact ⟨h1, h2, h⟩
theorem pyNe_of {x y : Dt} {S : Store} {Q : Dt → Store → Prop} (h1 : fl 60 x = true) (h2 : fl 60 y = true) (h : Q (.bl (!eqD x y)) S) : pyNe x y S Q := pyEq_of h1 h2 h
theorem br_t {c : Prop} [Decidable c] {p q : Prop} (hc : c) (h : p) : br (decide c) p q := by rw [decide_eq_true hc]; exact h
theorem br_f {c : Prop} [Decidable c] {p q : Prop} (hc : ¬ c) (h : q) : br (decide c) p q := by rw [decide_eq_false hc]; exact h
theorem br_c {c : Prop} [Decidable c] {p q : Prop} (h1 : c → p) (h2 : ¬ c → q) : br (decide c) p q := by
  by_cases hc : c
  · exact br_t hc (h1 hc)
  · exact br_f hc (h2 hc)
local macro_rules | `(tactic| walk_at "side") => `(tactic| first | exact Nat.le_of_ble_eq_true rfl | exact trivial | exact rfl | decide | exact .inl (by decide) | exact .inr (.inl (by decide)) | exact ⟨by decide, by decide⟩ | omega | assumption)
local macro_rules | `(tactic| walk_at "go") => `(tactic| ((conv => whnf); repeat (first
  | (refine And.intro (by walk_at "side") ?_; (conv => whnf))
  | (refine br_t (by first | omega | assumption) ?_; (conv => whnf))
  | (refine br_f (by first | omega | assumption) ?_; (conv => whnf))
  | (rw [sup_same]; (conv => whnf)))))
def HandL (hd : List Dt) : Prop := ∃ (ns : List Int) (p b s c : Int), hd = [.lst (ns.map Dt.int), .int p, .int b, .int s, .int c] ∧ 0 ≤ p
/-- the row of a number -/
def figF : Nat → Int → List Int
  | 0, n => [n]
  | k + 1, n => if n < 128 then [n] else (n % 128 + 128) :: figF k (n / 128)
theorem figF_small {k : Nat} {n : Int} (h : n < 128) : figF k n = [n] := by
  cases k with
  | zero => rfl
  | succ k => unfold figF; rw [if_pos h]
theorem figF_big {k : Nat} {n : Int} (h : ¬ n < 128) : figF (k + 1) n = (n % 128 + 128) :: figF k (n / 128) := by
  rw [figF, if_neg h]
theorem figF_byte : ∀ {k : Nat} {n : Int}, 0 ≤ n → n < 128 ^ (k + 1) → ∀ b ∈ figF k n, 0 ≤ b ∧ b ≤ 255
  | 0, n, h0, h1, b, hb => by
    rw [figF, List.mem_singleton] at hb
    have h1 : n < 128 := h1
    omega
  | k + 1, n, h0, h1, b, hb => by
    rw [figF] at hb
    by_cases h : n < 128
    · rw [if_pos h, List.mem_singleton] at hb
      omega
    · rw [if_neg h, List.mem_cons] at hb
      rcases hb with rfl | hb
      · omega
      · exact figF_byte (by omega) (Int.ediv_lt_of_lt_mul (by decide) (by rw [Int.pow_succ] at h1; exact h1)) b hb
theorem figF_len : ∀ {k : Nat} {n : Int}, (figF k n).length ≤ k + 1
  | 0, n => Nat.le_refl _
  | k + 1, n => by
    rw [figF]
    split
    · exact Nat.le_add_left _ _
    · rw [List.length_cons]
      exact Nat.succ_le_succ figF_len
def foldI (n : Int) : Int := if 0 ≤ n then 2 * n else -2 * n - 1
/-- the number that a row begins with: what is left, how many more, found, worth, how many -/
def numG : List Int → Nat → Int → Int → Nat → Option (Int × Nat)
  | _, 0, _, _, _ => none
  | [], _ + 1, _, _, _ => none
  | b :: r, f + 1, v, p, c => if b < 128 then (if (b = 0 ∧ 0 < c) ∨ 18446744073709551616 ≤ v + b % 128 * p then none else some (v + b % 128 * p, c + 1)) else numG r f (v + b % 128 * p) (p * 128) (c + 1)
def numAt (bs : List Int) (a : Nat) : Option (Int × Nat) := numG (bs.drop a) 10 0 1 0
theorem numG_nil {f : Nat} {v p : Int} {c : Nat} : numG [] f v p c = none := by
  cases f <;> rfl
theorem numG_zero {r : List Int} {v p : Int} {c : Nat} : numG r 0 v p c = none := by
  cases r <;> rfl
theorem numG_more {b : Int} {r : List Int} {f : Nat} {v p : Int} {c : Nat} (h : ¬ b < 128) : numG (b :: r) (f + 1) v p c = numG r f (v + b % 128 * p) (p * 128) (c + 1) := by
  rw [numG, if_neg h]
theorem numG_last {b : Int} {r : List Int} {f : Nat} {v p : Int} {c : Nat} (h : b < 128) : numG (b :: r) (f + 1) v p c = if (b = 0 ∧ 0 < c) ∨ 18446744073709551616 ≤ v + b % 128 * p then none else some (v + b % 128 * p, c + 1) := by
  rw [numG, if_pos h]
def optD (a : Nat) : Option (Int × Nat) → Dt
  | none => .non
  | some (n, c) => .tup [.int n, .int ((a : Int) + (c : Int))]
def unfoldI (n : Int) : Int := if n % 2 = 0 then n / 2 else -(n + 1) / 2
inductive Rd where
  | noRow | noPlace | bad (a : Int) | ok (n e : Int)
def rdOf (k : Int) (w a : Dt) : Rd :=
  if rowW w = true then match a with
    | .int i => if 0 ≤ i ∧ i ≤ ((bytesOf w).length : Int) then match numAt (bytesOf w) i.toNat with
        | none => .bad i
        | some (n, c) => if k = 0 then .ok n (i + (c : Int)) else if -4611686018427387904 ≤ unfoldI n ∧ unfoldI n ≤ 4611686018427387904 then .ok (unfoldI n) (i + (c : Int)) else .bad i
      else .noPlace
    | _ => .noPlace
  else .noRow
def toldR : Rd → Dt
  | .noRow => .tup [.str "NoRow"]
  | .noPlace => .tup [.str "NoPlace"]
  | .bad i => .tup [.str "BadRow", .int i]
  | .ok n e => .tup [.str "told", .tup [.int n, .int e]]
def rdEnd (cR cP cB : Addr) (S : Store) (Q : Dt → Store → Prop) (Ex : Exn → Store → Prop) : Rd → Prop
  | .noRow => Ex ⟨.ref cR, none⟩ S
  | .noPlace => Ex ⟨.ref cP, none⟩ S
  | .bad i => Ex ⟨.ref cB, some (["place"], [.int i])⟩ S
  | .ok n e => Q (.tup [.int n, .int e]) S
theorem inW_not {w : Dt} {lo hi : Int} (h : inW w lo hi = false) (i : Int) (e : w = .int i) : ¬ (lo ≤ i ∧ i ≤ hi) := fun z => by
  subst e
  rw [inW_int z.1 z.2] at h
  cases h
theorem rdOf_noRow {k : Int} {w a : Dt} (h : rowW w = false) : rdOf k w a = .noRow := by
  unfold rdOf
  rw [h]
  rfl
theorem rdOf_noPlace {k : Int} {w a : Dt} (h : rowW w = true) (h2 : inW a 0 ((bytesOf w).length : Int) = false) : rdOf k w a = .noPlace := by
  unfold rdOf
  rw [if_pos h]
  cases a with
  | int i => exact if_neg (inW_not h2 i rfl)
  | _ => rfl
theorem rdOf_at {k : Int} {w : Dt} {a : Nat} (h : rowW w = true) (h2 : a ≤ (bytesOf w).length) : rdOf k w (.int a) = match numAt (bytesOf w) a with
        | none => .bad a
        | some (n, c) => if k = 0 then .ok n ((a : Int) + (c : Int)) else if -4611686018427387904 ≤ unfoldI n ∧ unfoldI n ≤ 4611686018427387904 then .ok (unfoldI n) ((a : Int) + (c : Int)) else .bad a := by
  unfold rdOf
  rw [if_pos h]
  show (if 0 ≤ (a : Int) ∧ (a : Int) ≤ ((bytesOf w).length : Int) then _ else _) = _
  rw [if_pos ⟨by omega, by omega⟩]
  rfl
theorem numG_fig : ∀ (k : Nat) (m v p : Int) (c : Nat) (post : List Int), 0 ≤ m → m < 128 ^ (k + 1) → v + m * p < 18446744073709551616 → (c = 0 ∨ 0 < m) → numG (figF (k + 1) m ++ post) (k + 1) v p c = some (v + m * p, c + (figF (k + 1) m).length)
  | k, m, v, p, c, post, h0, h1, h2, h3 => by
    by_cases h : m < 128
    · rw [figF_small h]
      show numG (m :: post) (k + 1) v p c = _
      have e : m % 128 = m := Int.emod_eq_of_lt h0 h
      rw [numG_last h, e, if_neg (fun z => by omega)]
      rfl
    · cases k with
      | zero => exact absurd (show m < 128 from h1) h
      | succ k =>
        have e : v + m % 128 * p + m / 128 * (p * 128) = v + m * p := by
          have q := Int.mul_ediv_add_emod m 128
          have q2 : (128 * (m / 128) + m % 128) * p = m * p := by rw [q]
          rw [Int.add_mul] at q2
          rw [← q2, Int.mul_comm p 128, ← Int.mul_assoc, Int.mul_comm (m / 128) 128]
          omega
        rw [figF_big h, List.cons_append, numG_more (show ¬ m % 128 + 128 < 128 by omega), show (m % 128 + 128) % 128 = m % 128 by omega,
          numG_fig k (m / 128) (v + m % 128 * p) (p * 128) (c + 1) post (by omega) (Int.ediv_lt_of_lt_mul (by decide) (by rw [Int.pow_succ] at h1; exact h1)) (by rw [e]; exact h2) (.inr (by omega)), e, List.length_cons]
        congr 2
        omega
theorem unfold_fold (n : Int) : unfoldI (foldI n) = n := by
  unfold unfoldI foldI
  by_cases h : 0 ≤ n
  · rw [if_pos h, if_pos (by omega)]
    omega
  · rw [if_neg h, if_neg (by omega)]
    omega
theorem numAt_fig {m : Int} {pre post : List Int} (h0 : 0 ≤ m) (h1 : m < 18446744073709551616) : numAt (pre ++ figF 10 m ++ post) pre.length = some (m, (figF 10 m).length) := by
  unfold numAt
  rw [List.append_assoc, List.drop_left, numG_fig 9 m 0 1 0 post h0 (by
    have : (128 : Int) ^ (9 + 1) = 1180591620717411303424 := by decide +kernel
    rw [this]
    omega) (by omega) (.inl rfl), Int.mul_one, Int.zero_add, Nat.zero_add]
theorem told_nice (r : Rd) : pl (toldR r) = true ∧ nice (toldR r) = true ∧ dep (toldR r) < 4 := by
  cases r <;> exact ⟨rfl, rfl, Nat.le_of_ble_eq_true rfl⟩
--! var floor Floor
--! var _law_floor Floor
--! var _law_floor_here Floor
def floorD (c : Addr) (R : Rws) : Dt := .ins c ["rows", "spots", "ties", "rests", "stops"] [.tup (R.map rowS), .tup ((spotsF R).map spD), .tup ((tiesF (spotsF R)).map fun l => .tup (lotW l)), .tup (lotW (ofF R 72)), .tup (lotW (ofF R 83))]
theorem inW_nat {w : Dt} {n : Nat} (h : inW w 0 ((n : Int) - 1) = true) : ∃ c : Nat, w = .int (c : Nat) ∧ c < n := by
  cases w with
  | int i =>
    unfold inW at h
    rw [Bool.and_eq_true, decide_eq_true_eq, decide_eq_true_eq] at h
    exact ⟨i.toNat, by congr 1; omega, by omega⟩
  | _ => cases h
/-- short texts in plain things -/
def OkL (xs : List Dt) : Prop := ∀ y ∈ xs, pl y = true ∧ ∀ z, y = .str z → z.length ≤ 100000
def OkT (x : Dt) : Prop := pl x = true ∧ ∀ xs, x = .tup xs → OkL xs
theorem OkL.tup {xs : List Dt} (h : OkL xs) : OkT (.tup xs) := ⟨pl_tup_of fun w hw => (h w hw).1, fun ys e => by injection e with e; subst e; exact h⟩
theorem OkL.app {xs ys : List Dt} (h : OkL xs) (k : OkL ys) : OkL (xs ++ ys) := fun y hy => (List.mem_append.mp hy).elim (h y) (k y)
theorem cutW_mem {α : Type} {xs : List α} {lo hi : Option Int} {x : α} (h : x ∈ cutW xs lo hi) : x ∈ xs := by
  unfold cutW at h
  exact List.mem_of_mem_drop (List.mem_of_mem_take h)
theorem OkL.cut {xs : List Dt} (h : OkL xs) (lo hi : Option Int) : OkL (cutW xs lo hi) := fun y hy => h y (cutW_mem hy)
theorem OkL.flat {xs : List Dt} (h : OkL xs) (n : Nat) : OkL (List.replicate n xs).flatten := fun y hy => by
  obtain ⟨l, hl, hy⟩ := List.mem_flatten.mp hy
  rw [List.mem_replicate] at hl
  rw [hl.2] at hy
  exact h y hy
theorem OkL.one {x : Dt} (h : pl x = true) (k : ∀ z, x = .str z → z.length ≤ 100000) : OkL [x] := fun y hy => by
  rw [List.mem_singleton] at hy
  subst hy
  exact ⟨h, k⟩
theorem okl_rows {R : Rws} (h : GoodF R) : OkL (R.map rowS) := fun y hy => by
  obtain ⟨r, hr, rfl⟩ := List.mem_map.mp hy
  refine ⟨rfl, fun z e => ?_⟩
  injection e with e
  rw [← e, rowS_len, h.wl r hr]
  exact Nat.le_trans h.w2 (by decide)
/-! ### _law_hand -/
def G__law_hand : Fw := fun ws S Q _ => ∃ ns : List Int, ws = [.kl (ns.map Dt.int)] ∧ ∀ h hd, S h = none → HandL hd → Q (.ref h) (sup S h (.lst hd))
theorem ok__law_hand (T : Txt P w K mg base c_BadFloor c_NoCell c_Floor) (D : Dfn2 K mg "_law_hand" "_law_hand" s__law_hand ["_law_script"])  : Cal P w K mg base "_law_hand" 1 ["_law_script"] 1 G__law_hand := by
  refine cal_of D sc__law_hand G__law_hand rfl fun f cdv A outer s H E hr => ?_
  have hu := hr.units
  refine ⟨_, (jss_one (js_ret (je_ref (jl_lst (ja_cons (je_frz (jl_callT c_list (by rfl) T.n_list (by decide +kernel) (ja_cons (je_var (pv 0)) ja_nil))) (ja_cons je_int (ja_cons je_int (ja_cons je_int (ja_cons je_int ja_nil))))))))), fun ws S Q Ex hl g => ?_⟩
  obtain ⟨ns, rfl, g⟩ := g
  walk_at "dn"
  simp only [Dn.pyList, lsv]
  refine ⟨by show 5 ≤ 16777216; decide, fun p hp => clo.of (g p _ hp ⟨ns, 0, 0, 1, 0, rfl, by decide⟩)⟩
/-! ### _law_take -/
def G__law_take : Fw := fun ws S Q _ => ∃ (h : Addr) (n : Int) (S0 : Store) (hd : List Dt), ws = [.ref h, .int n] ∧ S = sup S0 h (.lst hd) ∧ HandL hd ∧ 0 < n ∧ n.natAbs.log2 < 9000 ∧ ∀ r hd', 0 ≤ r → r < n → HandL hd' → Q (.int r) (sup S0 h (.lst hd'))
theorem ok__law_take (T : Txt P w K mg base c_BadFloor c_NoCell c_Floor) (D : Dfn2 K mg "_law_take" "_law_take" s__law_take ["_law_hand_here", "_law_many"])  : Cal P w K mg base "_law_take" 1 ["_law_hand_here", "_law_many"] 2 G__law_take := by
  refine cal_of D sc__law_take G__law_take rfl fun f cdv A outer s H E hr => ?_
  have hu := hr.units
  refine ⟨_, (jss_cons (js_asg (je_op o_add (je_ix o_ix (je_var (pv 0)) je_int (fun _ _ => rfl)) je_int) (jg_sub (je_var (pv 0)) je_int s_list)) (jss_cut (js_if (jt_w (jw_and (jt_cmp (o_eq hu) (je_ix o_ix (je_var (pv 0)) je_int (fun _ _ => rfl)) je_int (nomark _)) (jw_one (jt_cmp o_lt (je_ix o_ix (je_var (pv 0)) je_int (fun _ _ => rfl)) (je_callB (c_len) (by rfl) T.n_len (by decide +kernel) (ja_cons (je_ix o_ix (je_var (pv 0)) je_int (fun _ _ => rfl)) ja_nil)) (nomark _))))) (jss_cons (js_set (je_callT c_int (by rfl) T.n_int (by decide +kernel) (ja_cons (je_ix o_ix (je_ix o_ix (je_var (pv 0)) je_int (fun _ _ => rfl)) (je_ix o_ix (je_var (pv 0)) je_int (fun _ _ => rfl)) (fun _ _ => rfl)) ja_nil)) (pg_name (i := 3) sc__law_take.nd rfl (by first | exact Or.inl rfl | exact Or.inr rfl))) (jss_cons (js_asg (je_op o_add (je_ix o_ix (je_var (pv 0)) je_int (fun _ _ => rfl)) je_int) (jg_sub (je_var (pv 0)) je_int s_list)) (jss_one (js_if (jt_cmp o_ge (je_var (pv 3)) (je_op o_pow je_int je_int) (nomark _)) (jss_one (js_asg (je_var (pv 3)) (jg_sub (je_var (pv 0)) je_int s_list))) (jss_one (js_asg (je_op o_mod (je_callT c_int (by rfl) T.n_int (by decide +kernel) (ja_cons (je_op o_add (je_op o_add (je_op o_mul (je_ix o_ix (je_var (pv 0)) je_int (fun _ _ => rfl)) je_int) (je_op o_mod (je_callT c_int (by rfl) T.n_int (by decide +kernel) (ja_cons (je_var (pv 3)) ja_nil)) je_int)) je_int) ja_nil)) je_int) (jg_sub (je_var (pv 0)) je_int s_list))))))) jss_nil) (jss_cons (js_if (jt_cmp o_gt (je_ix o_ix (je_var (pv 0)) je_int (fun _ _ => rfl)) je_int (nomark _)) (jss_cons (js_set (je_op o_mod (je_callT c_int (by rfl) T.n_int (by decide +kernel) (ja_cons (je_ix o_ix (je_var (pv 0)) je_int (fun _ _ => rfl)) ja_nil)) (je_var (pv 1))) (pg_name (i := 4) sc__law_take.nd rfl (by first | exact Or.inl rfl | exact Or.inr rfl))) (jss_cons (js_asg (je_op o_fdiv (je_callT c_int (by rfl) T.n_int (by decide +kernel) (ja_cons (je_ix o_ix (je_var (pv 0)) je_int (fun _ _ => rfl)) ja_nil)) (je_var (pv 1))) (jg_sub (je_var (pv 0)) je_int s_list)) (jss_one (js_ret (je_var (pv 4)))))) jss_nil) (jss_cons (js_asg (je_op o_mod (je_callT c_int (by rfl) T.n_int (by decide +kernel) (ja_cons (je_op o_add (je_op o_mul (je_ix o_ix (je_var (pv 0)) je_int (fun _ _ => rfl)) je_int) (je_op o_mul je_int (je_ix o_ix (je_var (pv 0)) je_int (fun _ _ => rfl)))) ja_nil)) je_int) (jg_sub (je_var (pv 0)) je_int s_list)) (jss_cons (js_set (je_op o_mod (je_callT c_int (by rfl) T.n_int (by decide +kernel) (ja_cons (je_op o_mul (je_ix o_ix (je_var (pv 0)) je_int (fun _ _ => rfl)) (je_op o_add (je_op o_fdiv (je_ix o_ix (je_var (pv 0)) je_int (fun _ _ => rfl)) je_int) je_int)) ja_nil)) je_int) (pg_name (i := 2) sc__law_take.nd rfl (by first | exact Or.inl rfl | exact Or.inr rfl))) (jss_cons (js_set (je_op o_mod (je_callT c_int (by rfl) T.n_int (by decide +kernel) (ja_cons (je_op o_mul (je_var (pv 2)) (je_op o_add (je_op o_fdiv (je_var (pv 2)) je_int) je_int)) ja_nil)) je_int) (pg_name (i := 2) sc__law_take.nd rfl (by first | exact Or.inl rfl | exact Or.inr rfl))) (jss_one (js_ret (je_op o_mod (je_callT c_int (by rfl) T.n_int (by decide +kernel) (ja_cons (je_op o_fdiv (je_var (pv 2)) je_int) ja_nil)) (je_var (pv 1))))))))))), fun ws S Q Ex hl g => ?_⟩
  obtain ⟨h, n, S0, hd, rfl, rfl, ⟨ns, p, b, s', c, rfl, hp⟩, hn, hn9, g⟩ := g
  unfold mCut
  walk_at "dh"
  refine ⟨fun σ S' => ∃ (p b s c : Int) (y1 y2 y3 : Option Dt), σ = [some (.ref h), some (.int n), y1, y2, y3] ∧ S' = sup S0 h (.lst [.lst (ns.map Dt.int), .int p, .int b, .int s, .int c]) ∧ 0 ≤ p, ?_, ?_⟩
  · by_cases e : b = 0
    · subst e
      by_cases hl : p < (ns.length : Int)
      · obtain ⟨x, hx⟩ := atI_ints hp hl
        simp only [hl, decide_true, hx]
        walk_at "dh"
        refine ⟨by decide, ?_⟩
        by_cases hc : (10 : Int) ^ Int.toNat 18 ≤ x
        · simp only [hc, decide_true]
          walk_at "dh"
          exact ⟨p + 1, x, s', c + 1, _, _, _, rfl, rfl, by omega⟩
        · simp only [hc, decide_false]
          walk_at "dh"
          exact ⟨.inr (.inl (by decide)), by decide, by decide, p + 1, 0, _, c + 1, _, _, _, rfl, rfl, by omega⟩
      · simp only [hl, decide_true, decide_false]
        walk_at "dh"
        exact ⟨p, 0, s', c + 1, _, _, _, rfl, rfl, hp⟩
    · simp only [e, decide_false]
      walk_at "dh"
      exact ⟨p, b, s', c + 1, _, _, _, rfl, rfl, hp⟩
  · rintro σ S' ⟨p, b, s, c, y1, y2, y3, rfl, rfl, hp⟩
    walk_at "dh"
    by_cases hb : 0 < b
    · simp only [hb, decide_true]
      walk_at "dh"
      refine ⟨hn, ⟨hn, hn9⟩, clo.of (g _ _ (Int.emod_nonneg _ (by omega)) (Int.emod_lt_of_pos _ hn) ⟨ns, p, b / n, s, c, rfl, hp⟩)⟩
    · simp only [hb, decide_false]
      walk_at "dh"
      have r1 := Int.emod_nonneg (s * 69621 + 7919 * c) (by decide : (2147483647 : Int) ≠ 0)
      have r2 := Int.emod_lt_of_pos (s * 69621 + 7919 * c) (by decide : (0 : Int) < 2147483647)
      generalize (s * 69621 + 7919 * c) % 2147483647 = q at r1 r2 ⊢
      have q1 := Int.emod_nonneg (q * (q / 1009 + 69621)) (by decide : (2147483647 : Int) ≠ 0)
      have q2 := Int.emod_lt_of_pos (q * (q / 1009 + 69621)) (by decide : (0 : Int) < 2147483647)
      generalize (q * (q / 1009 + 69621)) % 2147483647 = t at q1 q2 ⊢
      refine ⟨.inr (.inl (by decide)), .inl (by decide), by decide, ⟨by decide, by decide⟩, .inl (by omega), by decide, ⟨by decide, by decide⟩, .inl (by omega), by decide, ⟨by decide, by decide⟩, hn, clo.of (g _ _ (Int.emod_nonneg _ (by omega)) (Int.emod_lt_of_pos _ hn) ⟨ns, p, b, q, c, rfl, hp⟩)⟩
/-! ### _law_pick -/
def G__law_pick : Fw := fun ws S Q _ => ∃ (h : Addr) (xs : List Dt) (S0 : Store) (hd : List Dt), ws = [.ref h, .lst xs] ∧ S = sup S0 h (.lst hd) ∧ HandL hd ∧ 0 < xs.length ∧ xs.length < 1000 ∧ ∀ x hd', x ∈ xs → HandL hd' → Q x (sup S0 h (.lst hd'))
theorem ok__law_pick (T : Txt P w K mg base c_BadFloor c_NoCell c_Floor) (D : Dfn2 K mg "_law_pick" "_law_pick" s__law_pick ["_law_hand_here", "_law_things"]) (C__law_take : Cal P w K mg base "_law_take" 1 ["_law_hand_here", "_law_many"] 2 G__law_take) : Cal P w K mg base "_law_pick" 2 ["_law_hand_here", "_law_things"] 2 G__law_pick := by
  refine cal_of D sc__law_pick G__law_pick rfl fun f cdv A outer s H E hr => ?_
  have hu := hr.units
  refine ⟨_, (jss_one (js_ret (je_ix o_ix (je_var (pv 1)) (je_cal C__law_take (hr.mono (by omega)) takes_def (by rfl) (ja_cons (je_var (pv 0)) (ja_cons (je_callB (c_len) (by rfl) T.n_len (by decide +kernel) (ja_cons (je_var (pv 1)) ja_nil)) ja_nil))) (fun _ _ => rfl)))), fun ws S Q Ex hl g => ?_⟩
  obtain ⟨h, xs, S0, hd, rfl, rfl, hh, h0, h1, g⟩ := g
  walk_at "dh"
  refine ⟨h, (xs.length : Int), S0, hd, rfl, rfl, hh, by omega, log_small (by omega), fun r hd' r0 r1 hh' => ?_⟩
  have hl : r.toNat < xs.length := by omega
  have e : atI xs r = some xs[r.toNat] := by
    unfold atI ixN
    rw [if_pos r0, if_pos r1]
    exact List.getElem?_eq_getElem hl
  walk_at "dh"
  rw [e]
  exact clo.of (g _ _ (List.getElem_mem hl) hh')
/-! ### _law_signs -/
def G__law_signs : Fw := fun ws S Q _ => ∃ (h : Addr) (S0 : Store) (hd : List Dt), ws = [.ref h] ∧ S = sup S0 h (.lst hd) ∧ HandL hd ∧ ∀ (z : Str) hd', 1 ≤ z.length → z.length ≤ 12 → z.cps.toList.all isSg = true → HandL hd' → Q (.str z) (sup S0 h (.lst hd'))
theorem ok__law_signs (T : Txt P w K mg base c_BadFloor c_NoCell c_Floor) (D : Dfn2 K mg "_law_signs" "_law_signs" s__law_signs ["_law_hand_here"]) (C__law_pick : Cal P w K mg base "_law_pick" 2 ["_law_hand_here", "_law_things"] 2 G__law_pick) : Cal P w K mg base "_law_signs" 3 ["_law_hand_here"] 1 G__law_signs := by
  refine cal_of D sc__law_signs G__law_signs rfl fun f cdv A outer s H E hr => ?_
  have hu := hr.units
  refine ⟨_, (jss_one (js_ret (je_cal C__law_pick (hr.mono (by omega)) takes_def (by rfl) (ja_cons (je_var (pv 0)) (ja_cons (je_frz (jl_lst (ja_cons je_str (ja_cons je_str (ja_cons je_str (ja_cons je_str (ja_cons je_str (ja_cons je_str ja_nil)))))))) ja_nil))))), fun ws S Q Ex hl g => ?_⟩
  obtain ⟨h, S0, hd, rfl, rfl, hh, g⟩ := g
  walk_at "go"
  refine ⟨h, _, S0, hd, rfl, rfl, hh, by decide, by decide, fun x hd' hx hh' => ?_⟩
  simp only [List.mem_cons, List.not_mem_nil, or_false] at hx
  rcases hx with rfl | rfl | rfl | rfl | rfl | rfl <;> exact clo.of (g _ hd' (by decide +kernel) (by decide +kernel) (by decide +kernel) hh')
/-! ### _law_rows -/
def G__law_rows : Fw := fun ws S Q _ => ∃ (h : Addr) (m : Int) (S0 : Store) (hd : List Dt), ws = [.ref h, .int m] ∧ S = sup S0 h (.lst hd) ∧ HandL hd ∧ 1 ≤ m ∧ m ≤ 12 ∧ ∀ R hd', GoodF R → HandL hd' → Q (.tup (R.map rowS)) (sup S0 h (.lst hd'))
theorem ok__law_rows (T : Txt P w K mg base c_BadFloor c_NoCell c_Floor) (D : Dfn2 K mg "_law_rows" "_law_rows" s__law_rows ["_law_hand_here", "_law_most"]) (C__law_take : Cal P w K mg base "_law_take" 1 ["_law_hand_here", "_law_many"] 2 G__law_take) (C__law_signs : Cal P w K mg base "_law_signs" 3 ["_law_hand_here"] 1 G__law_signs) : Cal P w K mg base "_law_rows" 4 ["_law_hand_here", "_law_most"] 2 G__law_rows := by
  refine cal_of D sc__law_rows G__law_rows rfl fun f cdv A outer s H E hr => ?_
  have hu := hr.units
  refine ⟨_, (jss_cons (js_set (je_op o_add je_int (je_cal C__law_take (hr.mono (by omega)) takes_def (by rfl) (ja_cons (je_var (pv 0)) (ja_cons (je_var (pv 1)) ja_nil)))) (pg_name (i := 2) sc__law_rows.nd rfl (by first | exact Or.inl rfl | exact Or.inr rfl))) (jss_cons (js_set (je_op o_add je_int (je_cal C__law_take (hr.mono (by omega)) takes_def (by rfl) (ja_cons (je_var (pv 0)) (ja_cons (je_var (pv 1)) ja_nil)))) (pg_name (i := 3) sc__law_rows.nd rfl (by first | exact Or.inl rfl | exact Or.inr rfl))) (jss_cons (js_set (je_cal C__law_signs (hr.mono (by omega)) takes_def (by rfl) (ja_cons (je_var (pv 0)) ja_nil)) (pg_name (i := 4) sc__law_rows.nd rfl (by first | exact Or.inl rfl | exact Or.inr rfl))) (jss_cons (js_set (je_ref (jl_lst ja_nil)) (pg_name (i := 5) sc__law_rows.nd rfl (by first | exact Or.inl rfl | exact Or.inr rfl))) (jss_cons (js_set je_int (pg_name (i := 6) sc__law_rows.nd rfl (by first | exact Or.inl rfl | exact Or.inr rfl))) (jss_cut (js_for passes_def rfl (ji_rng1 (by rfl) T.n_range (ja_cons (je_var (pv 2)) ja_nil)) (jg_name (pg_name (i := 7) sc__law_rows.nd rfl (by first | exact Or.inl rfl | exact Or.inr rfl))) (jss_cons (js_set je_str (pg_name (i := 8) sc__law_rows.nd rfl (by first | exact Or.inl rfl | exact Or.inr rfl))) (jss_cons (js_for passes_def rfl (ji_rng1 (by rfl) T.n_range (ja_cons (je_var (pv 3)) ja_nil)) (jg_name (pg_name (i := 9) sc__law_rows.nd rfl (by first | exact Or.inl rfl | exact Or.inr rfl))) (jss_cons (js_set (je_ix o_ix (je_var (pv 4)) (je_cal C__law_take (hr.mono (by omega)) takes_def (by rfl) (ja_cons (je_var (pv 0)) (ja_cons (je_callB (c_len) (by rfl) T.n_len (by decide +kernel) (ja_cons (je_var (pv 4)) ja_nil)) ja_nil))) (fun _ _ => rfl)) (pg_name (i := 10) sc__law_rows.nd rfl (by first | exact Or.inl rfl | exact Or.inr rfl))) (jss_cons (js_if (jt_cmp (o_eq hu) (je_var (pv 10)) je_str (nomark _)) (jss_cons (js_set (je_op o_add (je_var (pv 6)) je_int) (pg_name (i := 6) sc__law_rows.nd rfl (by first | exact Or.inl rfl | exact Or.inr rfl))) (jss_one (js_if (jt_cmp o_gt (je_var (pv 6)) je_int (nomark _)) (jss_one (js_set je_str (pg_name (i := 10) sc__law_rows.nd rfl (by first | exact Or.inl rfl | exact Or.inr rfl)))) jss_nil))) jss_nil) (jss_one (js_set (je_op o_add (je_var (pv 8)) (je_var (pv 10))) (pg_name (i := 8) sc__law_rows.nd rfl (by first | exact Or.inl rfl | exact Or.inr rfl))))))) (jss_one (js_drop (je_meth PySem.F.plainAttrs_list PySem.F.slot_list_append PySem.F.type_list_append m_append (je_var (pv 5)) (ja_cons (je_var (pv 8)) ja_nil))))))) (jss_cons (js_if (jt_cmp (o_eq hu) (je_var (pv 6)) je_int (nomark _)) (jss_one (js_asg (je_op o_add je_str (je_slice o_slice (je_ix o_ix (je_var (pv 5)) je_int (fun _ _ => rfl)) (jo_some je_int) jo_none)) (jg_sub (je_var (pv 5)) je_int s_list))) jss_nil) (jss_one (js_ret (je_callT c_tuple (by rfl) T.n_tuple (by decide +kernel) (ja_cons (je_var (pv 5)) ja_nil))))))))))), fun ws S Q Ex hl g => ?_⟩
  obtain ⟨h, m, S0, hd, rfl, rfl, hh, hm1, hm2, g⟩ := g
  unfold mCut
  walk_at "go"
  refine ⟨h, m, S0, hd, rfl, rfl, hh, by omega, log_small (by omega), fun high hd1 g0 g1 hh1 => ?_⟩
  walk_at "go"
  refine ⟨h, m, S0, hd1, rfl, rfl, hh1, by omega, log_small (by omega), fun wide hd2 w0 w1 hh2 => ?_⟩
  walk_at "go"
  refine ⟨h, S0, hd2, rfl, rfl, hh2, fun z hd3 z1 z2 z3 hh3 => ?_⟩
  walk_at "go"
  intro p hp
  generalize e1 : 1 + high = Hh
  obtain ⟨hi', rfl⟩ : ∃ a : Nat, Hh = (a : Int) := ⟨Hh.toNat, by omega⟩
  generalize e2 : 1 + wide = Wd
  obtain ⟨wi, rfl⟩ : ∃ a : Nat, Wd = (a : Int) := ⟨Wd.toNat, by omega⟩
  have hph := ne_of_sup hp
  have hpS : S0 p = none := by rwa [sup_ne hph] at hp
  have hp2 : ∀ {u : Ob}, sup S0 h u p = none := fun {u} => by rw [sup_ne hph]; exact hpS
  rw [sup_comm (Ne.symm hph)]
  have ez := str_of z
  generalize z.cps.toList = zl at ez z3
  subst ez
  rw [rowS_len] at z1 z2
  refine ⟨fun σ S' => ∃ (y7 y8 y9 y10 : Option Dt) (R : Rws) (n : Nat) (hd' : List Dt), σ = [some (.ref h), some (.int m), some (.int hi'), some (.int wi), some (rowS zl), some (.ref p), some (.int n), y7, y8, y9, y10] ∧
    S' = sup (sup S0 p (.lst (R.map rowS))) h (.lst hd') ∧ HandL hd' ∧ R.length = hi' ∧ (∀ r ∈ R, r.length = wi) ∧ (∀ r ∈ R, ∀ c ∈ r, isSg c = true) ∧ homesF R = min n 6, ?_, ?_⟩
  · walk_at "go"
    rw [Int.toNat_natCast, rangeW_0]
    refine forW_rule (fun i σ S' => ∃ (y7 y8 y9 y10 : Option Dt) (R : Rws) (n : Nat) (hd' : List Dt), σ = [some (.ref h), some (.int m), some (.int hi'), some (.int wi), some (rowS zl), some (.ref p), some (.int n), y7, y8, y9, y10] ∧
      S' = sup (sup S0 p (.lst (R.map rowS))) h (.lst hd') ∧ HandL hd' ∧ R.length = i ∧ (∀ r ∈ R, r.length = wi) ∧ (∀ r ∈ R, ∀ c ∈ r, isSg c = true) ∧ homesF R = min n 6) ⟨none, none, none, none, [], 0, hd3, rfl, rfl, hh3, rfl, (fun r h => nomatch h), (fun r h => nomatch h), rfl⟩ ?_ ?_
    · rintro i w σ S' N ew ⟨y7, y8, y9, y10, R, n, hd', rfl, rfl, hh', hl, hw, hg, hn⟩ hN
      obtain ⟨k, ek, rfl⟩ := map_get ew
      have hi : i < hi' := by
        have := (List.getElem?_eq_some_iff.mp ek).1
        rwa [List.length_range] at this
      refine ⟨trivial, ?_⟩
      walk_at "go"
      rw [Int.toNat_natCast, rangeW_0]
      refine forW_rule (fun j σ S' => ∃ (y9 y10 : Option Dt) (r : List Nat) (n : Nat) (hd' : List Dt), σ = [some (.ref h), some (.int m), some (.int hi'), some (.int wi), some (rowS zl), some (.ref p), some (.int n), some (.int k), some (rowS r), y9, y10] ∧
        S' = sup (sup S0 p (.lst (R.map rowS))) h (.lst hd') ∧ HandL hd' ∧ r.length = j ∧ (∀ c ∈ r, isSg c = true) ∧ homesF R + r.count 72 = min n 6) ⟨y9, y10, [], n, hd', rfl, rfl, hh', rfl, (fun c h => nomatch h), hn⟩ ?_ ?_
      · rintro j w σ S' N2 ew2 ⟨y9, y10, r, n, hd', rfl, rfl, hh', hl2, hg2, hn2⟩ hN2
        obtain ⟨j', ej, rfl⟩ := map_get ew2
        have hj : j < wi := by
          have := (List.getElem?_eq_some_iff.mp ej).1
          rwa [List.length_range] at this
        refine ⟨trivial, ?_⟩
        walk_at "go"
        rw [rowS_len]
        refine ⟨by show _ ≤ 16777216; omega, ?_⟩
        walk_at "go"
        refine ⟨h, (zl.length : Int), _, hd', rfl, rfl, hh', by omega, log_small (by omega), fun x hd4 x0 x1 hh4 => ?_⟩
        walk_at "go"
        refine ⟨by rw [rowS_len]; show _ ≤ 16777216; omega, ?_⟩
        have hx : x.toNat < zl.length := by omega
        have e := row_at hx
        rw [show ((x.toNat : Nat) : Int) = x by omega] at e
        rw [e]
        have hc : isSg (zl.getD x.toNat 0) = true := List.all_eq_true.mp z3 _ (getD_mem hx)
        generalize zl.getD x.toNat 0 = c at hc
        have step : ∀ (c' : Nat) (n' : Nat), isSg c' = true → homesF R + (r ++ [c']).count 72 = min n' 6 → ∃ _ : (⟨r.toArray⟩ : Str).length + (⟨#[c']⟩ : Str).length ≤ sizeLine, N2 [some (.ref h), some (.int m), some (.int hi'), some (.int wi), some (rowS zl), some (.ref p), some (.int n'), some (.int k), some (.str ((⟨r.toArray⟩ : Str) ++ (⟨#[c']⟩ : Str))), some (.int j'), some (.str ⟨#[c']⟩)] (sup (sup S0 p (.lst (R.map rowS))) h (.lst hd4)) := fun c' n' h1 h2 => by
          refine ⟨?_, ?_⟩
          · rw [rowS_len]
            show r.length + 1 ≤ 16777216
            omega
          · rw [rowS_app]
            refine hN2 _ _ ⟨_, _, r ++ [c'], n', hd4, rfl, rfl, hh4, by rw [List.length_append, hl2]; rfl, fun x hx => ?_, h2⟩
            rcases List.mem_append.mp hx with hx | hx
            · exact hg2 x hx
            · rw [List.mem_singleton] at hx
              rw [hx]
              exact h1
        walk_at "go"
        rw [show decide ((⟨#[c]⟩ : Str) = ("H" : Str)) = decide (c = 72) by rw [Bool.eq_iff_iff, decide_eq_true_iff, decide_eq_true_iff, strH, str_one]]
        by_cases c72 : c = 72
        · subst c72
          rw [decide_eq_true rfl]
          walk_at "go"
          by_cases hn6 : (6 : Int) < (n : Int) + 1
          · rw [decide_eq_true hn6]
            walk_at "go"
            obtain ⟨s1, s2⟩ := step 46 (n + 1) rfl (by rw [List.count_append, List.count_singleton]; simp; omega)
            rw [← strDot] at s1 s2
            exact ⟨s1, s2⟩
          · rw [decide_eq_false hn6]
            walk_at "go"
            obtain ⟨s1, s2⟩ := step 72 (n + 1) rfl (by rw [List.count_append, List.count_singleton]; simp; omega)
            exact ⟨s1, s2⟩
        · rw [decide_eq_false c72]
          walk_at "go"
          obtain ⟨s1, s2⟩ := step c n hc (by rw [List.count_append, List.count_singleton]; simp [c72]; omega)
          exact ⟨s1, s2⟩
      · rintro σ S' ⟨y9, y10, r, n, hd', rfl, rfl, hh', hl2, hg2, hn2⟩
        refine ⟨trivial, ?_⟩
        rw [List.length_map, List.length_range] at hl2
        walk_at "go"
        refine ⟨tyW_at (sup_at hph), ?_⟩
        walk_at "go"
        rw [sup_at hph]
        walk_at "go"
        refine ⟨by rw [List.length_map]; show _ < 16777216; omega, ?_⟩
        walk_at "go"
        rw [sup_set hph]
        refine hN _ _ ⟨_, _, _, _, R ++ [r], n, hd', rfl, by rw [List.map_append]; rfl, hh', by rw [List.length_append, hl]; rfl, ?_, ?_, ?_⟩
        · intro x hx
          rcases List.mem_append.mp hx with hx | hx
          · exact hw x hx
          · rw [List.mem_singleton] at hx
            subst hx
            omega
        · intro x hx
          rcases List.mem_append.mp hx with hx | hx
          · exact hg x hx
          · rw [List.mem_singleton] at hx
            subst hx
            exact hg2
        · unfold homesF at hn2 ⊢
          rw [List.map_append, List.sum_append]
          simpa using hn2
    · rintro σ S' ⟨y7, y8, y9, y10, R, n, hd', rfl, rfl, hh', hl, hw, hg, hn⟩
      rw [List.length_map, List.length_range] at hl
      exact ⟨trivial, y7, y8, y9, y10, R, n, hd', rfl, rfl, hh', hl, hw, hg, hn⟩
  · rintro σ S' ⟨y7, y8, y9, y10, R, n, hd', rfl, rfl, hh', hl, hw, hg, hn⟩
    have sub : Sub (sup S0 h (.lst hd')) (sup (sup S0 p (.lst (R.map rowS))) h (.lst hd')) := by
      rw [sup_comm hph]
      exact sub_sup hp2
    have e0 : 0 < R.length := by omega
    walk_at "go"
    by_cases n0 : n = 0
    · rw [decide_eq_true (show (n : Int) = 0 by omega)]
      subst n0
      cases R with
      | nil => cases e0
      | cons r0 R =>
        have hr0 := hw r0 List.mem_cons_self
        walk_at "go"
        rw [lsv_at (sup_at hph)]
        walk_at "go"
        rw [List.map_cons, at_0]
        walk_at "go"
        refine ⟨by rw [rowS_len]; show _ ≤ 16777216; omega, ?_⟩
        rw [cutS_row, cutW_from1]
        walk_at "go"
        refine ⟨by show ("H" : Str).length + (⟨r0.tail.toArray⟩ : Str).length ≤ 16777216; rw [rowS_len r0.tail, List.length_tail, strH]; show 1 + _ ≤ 16777216; omega, ?_⟩
        rw [show ("H" : Str) ++ (⟨r0.tail.toArray⟩ : Str) = ⟨(72 :: r0.tail).toArray⟩ by rw [strH]; exact rowS_cons 72 r0.tail]
        walk_at "go"
        rw [sup_at hph]
        walk_at "go"
        rw [ixN_zero (by simp)]
        walk_at "go"
        rw [sup_set hph, lsv_at (sup_at hph)]
        walk_at "go"
        have sub2 : Sub (sup S0 h (.lst hd')) (sup (sup S0 p (.lst (((r0 :: R).map rowS).set 0 (.str ⟨(72 :: r0.tail).toArray⟩)))) h (.lst hd')) := by
          rw [sup_comm hph]
          exact sub_sup hp2
        have hmin : homesF (r0 :: R) = 0 := by rw [hn]; rfl
        have hw' : ∀ r ∈ (72 :: r0.tail) :: R, r.length = wi := fun r hr => by
          rcases List.mem_cons.mp hr with rfl | hr
          · rw [List.length_cons, List.length_tail]; omega
          · exact hw r (List.mem_cons_of_mem _ hr)
        have hh6 : homesF ((72 :: r0.tail) :: R) = 1 := by
          unfold homesF at hmin ⊢
          rw [List.map_cons, List.sum_cons] at hmin ⊢
          have : List.count 72 r0.tail ≤ List.count 72 r0 := (List.tail_sublist r0).count_le 72
          rw [List.count_cons_self]
          omega
        refine clo.sub (g ((72 :: r0.tail) :: R) hd' ⟨by rw [List.length_cons]; omega, by rw [List.length_cons] at hl ⊢; omega, fun r hr => ?_, ?_, ?_, fun r hr c hc => ?_, by omega, by omega⟩ hh') sub2
        · rw [hw' r hr, wide_hd (by simp) hw']
        · rw [wide_hd (by simp) hw']; omega
        · rw [wide_hd (by simp) hw']; omega
        · rcases List.mem_cons.mp hr with rfl | hr
          · rcases List.mem_cons.mp hc with rfl | hc
            · rfl
            · exact hg r0 List.mem_cons_self c (List.mem_of_mem_tail hc)
          · exact hg r (List.mem_cons_of_mem _ hr) c hc
    · rw [decide_eq_false (show ¬ (n : Int) = 0 by omega)]
      walk_at "go"
      rw [lsv_at (sup_at hph)]
      walk_at "go"
      refine clo.sub (g R hd' ⟨by omega, by omega, fun r hr => ?_, ?_, ?_, hg, by omega, by omega⟩ hh') sub
      · rw [hw r hr, wide_hd e0 hw]
      · rw [wide_hd e0 hw]; omega
      · rw [wide_hd e0 hw]; omega
/-! ### all_spots -/
def G_all_spots : Fw := fun ws S Q _ => ∃ R : Rws, ws = [.tup (R.map rowS)] ∧ GoodF R ∧ Q (.tup ((spotsF R).map spD)) S
theorem ok_all_spots (T : Txt P w K mg base c_BadFloor c_NoCell c_Floor) (D : Dfn2 K mg "all_spots" "all_spots" s_all_spots ["rows"])  : Cal P w K mg base "all_spots" 1 ["rows"] 1 G_all_spots := by
  refine cal_of D sc_all_spots G_all_spots rfl fun f cdv A outer s H E hr => ?_
  have hu := hr.units
  refine ⟨_, (jss_cons (js_set (je_ref (jl_lst ja_nil)) (pg_name (i := 1) sc_all_spots.nd rfl (by first | exact Or.inl rfl | exact Or.inr rfl))) (jss_cons (js_for passes_def rfl (ji_enum (by rfl) T.n_enumerate (ja_cons (je_var (pv 0)) ja_nil)) (jg_tup (n := 2) rfl (jgs_cons (jg_name (pg_name (i := 2) sc_all_spots.nd rfl (by first | exact Or.inl rfl | exact Or.inr rfl))) (jgs_cons (jg_name (pg_name (i := 3) sc_all_spots.nd rfl (by first | exact Or.inl rfl | exact Or.inr rfl))) jgs_nil))) (jss_one (js_drop (je_meth PySem.F.plainAttrs_list PySem.F.slot_list_extend PySem.F.type_list_extend m_extend (je_var (pv 1)) (ja_cons (je_frz (jl_comp (own := [("column", 4), ("sign", 5)]) rfl sc_all_spots.nd (ji_enum (by rfl) T.n_enumerate (ja_cons (je_var (pv 3)) ja_nil)) (blkOk_by (N := N_all_spots) (sc := defScope s_all_spots) (by decide +kernel)) (binds_pair (by decide)) (fun _ _ _ _ _ => (pg_tup rfl (pgs_cons (pg_name (i := 4) sc_all_spots.nd rfl (by first | exact Or.inl rfl | exact Or.inr rfl)) (pgs_cons (pg_name (i := 5) sc_all_spots.nd rfl (by first | exact Or.inl rfl | exact Or.inr rfl)) pgs_nil)))) (fun _ _ _ _ _ => (jts_one (jt_cmp (o_ne hu) (je_var (pv 5)) (je_gs (by rfl) T.g_WALL) (nomark _)))) (fun _ _ _ _ _ => (je_tup (ja_cons (je_var (pv 2)) (ja_cons (je_var (pv 4)) ja_nil)))))) ja_nil))))) (jss_one (js_ret (je_callT c_tuple (by rfl) T.n_tuple (by decide +kernel) (ja_cons (je_var (pv 1)) ja_nil)))))), fun ws S Q Ex hl g => ?_⟩
  obtain ⟨R, rfl, hR, g⟩ := g
  walk_at "go"
  intro p hp
  walk_at "go"
  rw [enumW_map]
  refine forW_rule (fun i σ S' => ∃ (y2 y3 : Option Dt), σ = [some (.tup (R.map rowS)), some (.ref p), y2, y3, none, none] ∧ S' = sup S p (.lst (((R.zipIdx.take i).flatMap fun p => rowSp p.2 p.1).map spD))) ⟨none, none, rfl, rfl⟩ ?_ ?_
  · rintro i w σ S' N ew ⟨y2, y3, rfl, rfl⟩ hN
    obtain ⟨⟨r, j⟩, er, rfl⟩ := map_get ew
    have hr : r.length ≤ 12 := by
      rw [hR.wl r (List.fst_mem_of_mem_zipIdx (List.mem_of_getElem? er))]
      exact hR.w2
    refine ⟨trivial, ?_⟩
    walk_at "go"
    refine ⟨tyW_at sup_same, ?_⟩
    walk_at "go"
    rw [show signsW ⟨(r, j).fst.toArray⟩ = r.map fun c => .str ⟨#[c]⟩ from rfl, enumW_map]
    refine comp_xs (fun p : Nat × Nat => .tup [.int (p.2 : Nat), .str ⟨#[p.1]⟩]) (fun p => !decide (p.1 = 35)) (fun p => spD (j, p.2)) trivial r.zipIdx [] (fun p hp => ?_) ?_ ?_
    · refine ⟨_, rfl, fun k q => ?_, fun _ k q => ?_⟩
      · walk_at "go"
        rw [show decide (p.1 = 35) = decide ((⟨#[p.1]⟩ : Str) = ("#" : Str)) by rw [Bool.eq_iff_iff, decide_eq_true_iff, decide_eq_true_iff, strWall, str_one]] at q
        exact q
      · walk_at "go"
        exact q
    · rw [List.length_nil, List.length_zipIdx]
      show _ ≤ 16777216
      omega
    · walk_at "go"
      rw [List.nil_append, show (r.zipIdx.filter fun p => !decide (p.1 = 35)).map (fun p => spD (j, p.2)) = (rowSp j r).map spD by unfold rowSp; rw [List.map_map]; rfl]
      have h1 := spots_take R (i + 1)
      have h2 := spots_len hR
      rw [spots_more er, List.length_append] at h1
      refine ⟨by rw [List.length_map, List.length_map]; show _ ≤ 16777216; omega, ?_⟩
      walk_at "go"
      rw [sup_sup, ← List.map_append, ← spots_more er]
      exact hN _ _ ⟨_, _, rfl, rfl⟩
  · rintro σ S' ⟨y2, y3, rfl, rfl⟩
    refine ⟨trivial, ?_⟩
    rw [List.length_map, List.take_length]
    walk_at "go"
    rw [lsv_at sup_same]
    walk_at "go"
    exact clo.sub g (sub_sup hp)
/-! ### all_ties -/
def G_all_ties : Fw := fun ws S Q _ => ∃ sp : List (Nat × Nat), ws = [.tup (sp.map spD)] ∧ sp.Nodup ∧ sp.length ≤ 144 ∧ Q (.tup ((tiesF sp).map fun l => .tup (lotW l))) S
theorem ok_all_ties (T : Txt P w K mg base c_BadFloor c_NoCell c_Floor) (D : Dfn2 K mg "all_ties" "all_ties" s_all_ties ["spots"])  : Cal P w K mg base "all_ties" 1 ["spots"] 1 G_all_ties := by
  refine cal_of D sc_all_ties G_all_ties rfl fun f cdv A outer s H E hr => ?_
  have hu := hr.units
  refine ⟨_, (jss_cons (js_set (je_frzT (jd_compT (own := [("cell", 6), ("spot", 7)]) hu rfl sc_all_ties.nd (ji_enum (by rfl) T.n_enumerate (ja_cons (je_var (pv 0)) ja_nil)) (blkOk_by (N := N_all_ties) (sc := defScope s_all_ties) (by decide +kernel)) (binds_pair (by decide)) (fun _ _ _ _ _ => (pg_tup rfl (pgs_cons (pg_name (i := 6) sc_all_ties.nd rfl (by first | exact Or.inl rfl | exact Or.inr rfl)) (pgs_cons (pg_name (i := 7) sc_all_ties.nd rfl (by first | exact Or.inl rfl | exact Or.inr rfl)) pgs_nil)))) (fun _ _ _ _ _ => jts_nil) (fun _ _ _ _ _ => (je_var (pv 7))) (fun _ _ _ _ _ => (je_var (pv 6))))) (pg_name (i := 1) sc_all_ties.nd rfl (by first | exact Or.inl rfl | exact Or.inr rfl))) (jss_cons (js_set (je_ref (jl_lst ja_nil)) (pg_name (i := 2) sc_all_ties.nd rfl (by first | exact Or.inl rfl | exact Or.inr rfl))) (jss_cons (js_for passes_def rfl (ji_seq (je_var (pv 0))) (jg_tup (n := 2) rfl (jgs_cons (jg_name (pg_name (i := 3) sc_all_ties.nd rfl (by first | exact Or.inl rfl | exact Or.inr rfl))) (jgs_cons (jg_name (pg_name (i := 4) sc_all_ties.nd rfl (by first | exact Or.inl rfl | exact Or.inr rfl))) jgs_nil))) (jss_cons (js_set (je_frz (jl_lst (ja_cons (je_tup (ja_cons (je_op o_sub (je_var (pv 3)) je_int) (ja_cons (je_var (pv 4)) ja_nil))) (ja_cons (je_tup (ja_cons (je_op o_add (je_var (pv 3)) je_int) (ja_cons (je_var (pv 4)) ja_nil))) (ja_cons (je_tup (ja_cons (je_var (pv 3)) (ja_cons (je_op o_sub (je_var (pv 4)) je_int) ja_nil))) (ja_cons (je_tup (ja_cons (je_var (pv 3)) (ja_cons (je_op o_add (je_var (pv 4)) je_int) ja_nil))) ja_nil)))))) (pg_name (i := 5) sc_all_ties.nd rfl (by first | exact Or.inl rfl | exact Or.inr rfl))) (jss_one (js_drop (je_meth PySem.F.plainAttrs_list PySem.F.slot_list_append PySem.F.type_list_append m_append (je_var (pv 2)) (ja_cons (je_callT c_tuple (by rfl) T.n_tuple (by decide +kernel) (ja_cons (je_frz (jl_callB c_sortedI (by rfl) T.n_sorted (by decide +kernel) (ja_cons (je_frz (jl_comp (own := [("spot", 7)]) rfl sc_all_ties.nd (ji_seq (je_var (pv 5))) (blkOk_by (N := N_all_ties) (sc := defScope s_all_ties) (by decide +kernel)) binds_name (fun _ _ _ _ _ => (pg_name (i := 7) sc_all_ties.nd rfl (by first | exact Or.inl rfl | exact Or.inr rfl))) (fun _ _ _ _ _ => (jts_one (jt_cmp (o_in hu) (je_var (pv 7)) (je_var (pv 1)) (by rfl)))) (fun _ _ _ _ _ => (je_ix (o_ixD hu) (je_var (pv 1)) (je_var (pv 7)) (fun _ _ => rfl))))) ja_nil))) ja_nil)) ja_nil)))))) (jss_one (js_ret (je_callT c_tuple (by rfl) T.n_tuple (by decide +kernel) (ja_cons (je_var (pv 2)) ja_nil))))))), fun ws S Q Ex hl g => ?_⟩
  obtain ⟨sp, rfl, nd, hl, g⟩ := g
  walk_at "go"
  rw [enumW_map]
  refine dcomp_xs (fun p : (Nat × Nat) × Nat => .tup [.int (p.2 : Nat), spD p.1]) (fun p => spD p.1) (fun p => kyP p.1) (fun p => .int (p.2 : Nat)) trivial (fun p => rfl) sp.zipIdx [] [] (fun p hp => ?_) ?_ ?_ ?_
  · refine ⟨_, rfl, fun k q => ?_, fun k q => ?_⟩
    · walk_at "go"
      exact q
    · walk_at "go"
      exact q
  · rw [List.nil_append, zipIdx_fst kyP]
    unfold List.Nodup
    rw [List.pairwise_map]
    exact nd.imp fun h z => h (kyP_inj z)
  · rw [List.length_nil, List.length_zipIdx]
    show _ ≤ 16777216
    omega
  · rw [List.nil_append, List.nil_append, zipIdx_fst kyP]
    walk_at "go"
    intro p hp
    walk_at "go"
    refine forW_rule (fun i σ S' => ∃ (y3 y4 y5 : Option Dt), σ = [some (.tup (sp.map spD)), some (.dT (sp.map kyP) (sp.zipIdx.map fun p => .int (p.2 : Nat))), some (.ref p), y3, y4, y5, none, none] ∧ S' = sup S p (.lst (((sp.take i).map (tieF sp)).map fun l => .tup (lotW l)))) ⟨none, none, none, rfl, rfl⟩ ?_ ?_
    · rintro i w σ S' N ew ⟨y3, y4, y5, rfl, rfl⟩ hN
      obtain ⟨⟨r, c⟩, er, rfl⟩ := map_get ew
      refine ⟨trivial, ?_⟩
      walk_at "go"
      refine ⟨tyW_at sup_same, ?_⟩
      rw [show (Dt.lst [.tup [.int ((r : Int) - 1), .int (c : Int)], .tup [.int ((r : Int) + 1), .int (c : Int)], .tup [.int (r : Int), .int ((c : Int) - 1)], .tup [.int (r : Int), .int ((c : Int) + 1)]]) = .lst ((aroundP (r, c)).map fun q => .tup [.int q.1, .int q.2]) from rfl]
      have ts := tie_sorted nd (r, c)
      have la : (aroundP (r, c)).length = 4 := rfl
      generalize aroundP (r, c) = X at ts la
      walk_at "go"
      refine comp_xs (fun q : Int × Int => .tup [.int q.1, .int q.2]) (fun q => (lookP sp 0 q).isSome) (fun q => .int (((lookP sp 0 q).getD 0 : Nat) : Int)) trivial X [] (fun q hq => ?_) (by rw [la]; exact Nat.le_of_ble_eq_true rfl) ?_
      · refine ⟨_, rfl, fun k h => ?_, fun hs k h => ?_⟩
        · walk_at "go"
          have e := lkW_look sp 0 q
          unfold kyI at e
          rw [e, Option.isSome_map]
          exact h
        · walk_at "go"
          rw [dlook_sp]
          obtain ⟨o, eo⟩ := Option.isSome_iff_exists.mp hs
          rw [eo] at h ⊢
          exact h
      · walk_at "go"
        refine ⟨(X.filter fun q => (lookP sp 0 q).isSome).map fun q => (((lookP sp 0 q).getD 0 : Nat) : Int), by rw [List.nil_append, List.map_map]; rfl, ?_⟩
        rw [ts]
        walk_at "go"
        refine ⟨by rw [List.length_map, List.length_map, List.length_take]; show _ < 16777216; omega, ?_⟩
        walk_at "go"
        rw [sup_sup]
        refine hN _ _ ⟨_, _, _, rfl, ?_⟩
        rw [take_succ er, List.map_append, List.map_append]
        rw [show ((tieF sp (r, c)).map fun c => ((c : Nat) : Int)).map Dt.int = lotW (tieF sp (r, c)) by unfold lotW; rw [List.map_map]; rfl]
        rfl
    · rintro σ S' ⟨y3, y4, y5, rfl, rfl⟩
      refine ⟨trivial, ?_⟩
      rw [List.length_map, List.take_length]
      walk_at "go"
      rw [lsv_at sup_same]
      walk_at "go"
      exact clo.sub g (sub_sup hp)
/-! ### spots_of -/
def G_spots_of : Fw := fun ws S Q _ => ∃ (R : Rws) (s : Nat), ws = [.tup (R.map rowS), .tup ((spotsF R).map spD), .str ⟨#[s]⟩] ∧ GoodF R ∧ Q (.tup (lotW (ofF R s))) S
theorem ok_spots_of (T : Txt P w K mg base c_BadFloor c_NoCell c_Floor) (D : Dfn2 K mg "spots_of" "spots_of" s_spots_of ["rows", "spots", "sign"])  : Cal P w K mg base "spots_of" 1 ["rows", "spots", "sign"] 3 G_spots_of := by
  refine cal_of D sc_spots_of G_spots_of rfl fun f cdv A outer s H E hr => ?_
  have hu := hr.units
  refine ⟨_, (jss_one (js_ret (je_callT c_tuple (by rfl) T.n_tuple (by decide +kernel) (ja_cons (je_frz (jl_comp (own := [("cell", 3), ("row", 4), ("column", 5)]) rfl sc_spots_of.nd (ji_enum (by rfl) T.n_enumerate (ja_cons (je_var (pv 1)) ja_nil)) (blkOk_by (N := N_spots_of) (sc := defScope s_spots_of) (by decide +kernel)) (binds_of (bg_tup (n := 2) (bg_cons bg_name (bg_cons (bg_tup (n := 2) (bg_cons bg_name (bg_cons bg_name bg_nil))) bg_nil))) (by decide)) (fun _ _ _ _ _ => (pg_tup rfl (pgs_cons (pg_name (i := 3) sc_spots_of.nd rfl (by first | exact Or.inl rfl | exact Or.inr rfl)) (pgs_cons (pg_tup rfl (pgs_cons (pg_name (i := 4) sc_spots_of.nd rfl (by first | exact Or.inl rfl | exact Or.inr rfl)) (pgs_cons (pg_name (i := 5) sc_spots_of.nd rfl (by first | exact Or.inl rfl | exact Or.inr rfl)) pgs_nil))) pgs_nil)))) (fun _ _ _ _ _ => (jts_one (jt_cmp (o_eq hu) (je_ix o_ix (je_ix o_ix (je_var (pv 0)) (je_var (pv 4)) (fun _ _ => rfl)) (je_var (pv 5)) (fun _ _ => rfl)) (je_var (pv 2)) (nomark _)))) (fun _ _ _ _ _ => (je_var (pv 3))))) ja_nil)))), fun ws S Q Ex hl g => ?_⟩
  obtain ⟨R, s', rfl, hR, g⟩ := g
  walk_at "go"
  rw [enumW_map]
  refine comp_xs (fun p : (Nat × Nat) × Nat => .tup [.int (p.2 : Nat), spD p.1]) (fun p => decide (signF R p.1 = s')) (fun p => .int (p.2 : Nat)) trivial (spotsF R).zipIdx [] (fun p hp => ?_) ?_ ?_
  · have hs := (mem_spots.mp (List.fst_mem_of_mem_zipIdx hp))
    have hw : (R.getD p.1.1 []).length ≤ 12 := by
      rw [hR.wl _ (getD_mem hs.1)]
      exact hR.w2
    refine ⟨_, rfl, fun k q => ?_, fun _ k q => ?_⟩
    · walk_at "go"
      rw [atI_map [] hs.1]
      walk_at "go"
      refine ⟨by rw [rowS_len]; show _ ≤ 16777216; omega, ?_⟩
      rw [row_at hs.2.1]
      walk_at "go"
      rw [show decide (signF R p.1 = s') = decide ((⟨#[(R.getD p.1.1 []).getD p.1.2 0]⟩ : Str) = ⟨#[s']⟩) by rw [Bool.eq_iff_iff, decide_eq_true_iff, decide_eq_true_iff, str_one]; exact Iff.rfl] at q
      exact q
    · walk_at "go"
      exact q
  · have := spots_len hR
    rw [List.length_nil, List.length_zipIdx]
    show _ ≤ 16777216
    omega
  · walk_at "go"
    unfold ofF lotW at g
    rw [List.map_map] at g
    exact clo.of g
/-! ### is_sized -/
def G_is_sized : Fw := fun ws S Q _ => ∃ w lo hi, ws = [w, .int lo, .int hi] ∧ pl w = true ∧ Q (.bl (szW w lo hi)) S
theorem ok_is_sized (T : Txt P w K mg base c_BadFloor c_NoCell c_Floor) (D : Dfn2 K mg "is_sized" "is_sized" s_is_sized ["thing", "least", "most"])  : Cal P w K mg base "is_sized" 1 ["thing", "least", "most"] 3 G_is_sized := by
  refine cal_of D sc_is_sized G_is_sized rfl fun f cdv A outer s H E hr => ?_
  have hu := hr.units
  refine ⟨_, (jss_one (js_ret (je_and (je_callB (c_isi) (by rfl) T.n_isinstance (by decide +kernel) (ja_cons (je_var (pv 0)) (ja_cons (je_bty (T := "tuple") (by rfl) T.n_tuple (by decide +kernel)) ja_nil))) (je_one (je_chain o_le o_le (je_var (pv 1)) (je_callB (c_len) (by rfl) T.n_len (by decide +kernel) (ja_cons (je_var (pv 0)) ja_nil)) (je_var (pv 2))))))), fun ws S Q Ex hl g => ?_⟩
  obtain ⟨w, lo, hi, rfl, kw, g⟩ := g
  obtain ⟨t, kt⟩ := kn_pl (S := S) kw
  have g : clo Q (.bl (szW w lo hi)) S := clo.of g
  walk_at "dn"
  simp only [kt, kT kt]
  cases w with
  | tup xs =>
    walk_at "go"
    rw [show szW (.tup xs) lo hi = (decide (lo ≤ (xs.length : Int)) && decide ((xs.length : Int) ≤ hi)) from rfl] at g
    by_cases h : lo ≤ (xs.length : Int)
    · rw [decide_eq_true h] at g ⊢
      walk_at "go"
      exact g
    · rw [decide_eq_false h] at g ⊢
      walk_at "go"
      exact g
  | kt _ => cases kw
  | _ => exact g
/-! ### is_row -/
def G_is_row : Fw := fun ws S Q _ => ∃ w, ws = [w] ∧ pl w = true ∧ (∀ z, w = .str z → z.length ≤ 100000) ∧ Q (.bl (frowW w)) S
theorem ok_is_row (T : Txt P w K mg base c_BadFloor c_NoCell c_Floor) (D : Dfn2 K mg "is_row" "is_row" s_is_row ["thing"])  : Cal P w K mg base "is_row" 1 ["thing"] 1 G_is_row := by
  refine cal_of D sc_is_row G_is_row rfl fun f cdv A outer s H E hr => ?_
  have hu := hr.units
  refine ⟨_, (jss_cons (js_if (jt_w (jw_or (jt_not (jt_val (je_callB (c_isi) (by rfl) T.n_isinstance (by decide +kernel) (ja_cons (je_var (pv 0)) (ja_cons (je_bty (T := "str") (by rfl) T.n_str (by decide +kernel)) ja_nil))))) (jw_one (jt_not (jt_chain o_le o_le je_int (je_callB (c_len) (by rfl) T.n_len (by decide +kernel) (ja_cons (je_var (pv 0)) ja_nil)) (je_gi (by rfl) T.g_MOST_ROWS)))))) (jss_one (js_ret je_bl)) jss_nil) (jss_one (js_ret (je_callB (c_all rfl) (by rfl) T.n_all (by decide +kernel) (ja_cons (je_frz (jl_comp (own := [("sign", 1)]) rfl sc_is_row.nd (ji_seq (je_var (pv 0))) (blkOk_by (N := N_is_row) (sc := defScope s_is_row) (by decide +kernel)) binds_name (fun _ _ _ _ _ => (pg_name (i := 1) sc_is_row.nd rfl (by first | exact Or.inl rfl | exact Or.inr rfl))) (fun _ _ _ _ _ => jts_nil) (fun _ _ _ _ _ => (je_cmp (o_in hu) (je_var (pv 1)) (je_op o_add (je_op o_add (je_op o_add (je_gs (by rfl) T.g_FREE) (je_gs (by rfl) T.g_WALL)) (je_gs (by rfl) T.g_HOME)) (je_gs (by rfl) T.g_STATION)) (by rfl))))) ja_nil))))), fun ws S Q Ex hl g => ?_⟩
  obtain ⟨w, rfl, kw, hz, g⟩ := g
  obtain ⟨t, kt⟩ := kn_pl (S := S) kw
  have g : clo Q (.bl (frowW w)) S := clo.of g
  walk_at "dn"
  simp only [kt, kS kt]
  cases w with
  | str z =>
    have hz := hz z rfl
    walk_at "go"
    refine ⟨by show z.length ≤ 16777216; omega, ?_⟩
    walk_at "go"
    rw [show frowW (.str z) = (decide (1 ≤ z.length) && decide (z.length ≤ 12) && z.cps.toList.all isSg) from rfl] at g
    by_cases h1 : 1 ≤ z.length
    · rw [decide_eq_true (show (1 : Int) ≤ (z.length : Int) by omega)]
      rw [decide_eq_true h1] at g
      walk_at "go"
      by_cases h2 : z.length ≤ 12
      · rw [decide_eq_true (show (z.length : Int) ≤ 12 by omega)]
        rw [decide_eq_true h2] at g
        walk_at "go"
        refine comp_all (α := Nat) (fun c => .str ⟨#[c]⟩) (fun c => .bl (isSg c)) z.cps.toList trivial (fun c hc => ?_) (by have : z.cps.toList.length = z.length := Array.length_toList; show _ ≤ 16777216; omega) ?_
        · refine ⟨_, rfl, fun k q => ?_⟩
          walk_at "go"
          have e := isSg_mem c
          rw [← e] at q
          exact ⟨c, rfl, q⟩
        · walk_at "go"
          refine ⟨z.cps.toList.map isSg, by rw [List.map_map]; rfl, ?_⟩
          rw [List.all_map]
          exact g
      · rw [decide_eq_false (show ¬ (z.length : Int) ≤ 12 by omega)]
        rw [decide_eq_false h2] at g
        walk_at "go"
        exact g
    · rw [decide_eq_false (show ¬ (1 : Int) ≤ (z.length : Int) by omega)]
      rw [decide_eq_false h1] at g
      walk_at "go"
      exact g
  | kt _ => cases kw
  | _ => exact g
/-! ### Floor_init -/
def G_Floor_init (c_Floor c_BadFloor : Addr) : Fw := fun ws S Q Ex => ∃ (a : Addr) (S0 : Store) (w : Dt), ws = [.ref a, w] ∧ S = sup S0 a (.ins c_Floor [] []) ∧ S0 a = none ∧ pl w = true ∧ (∀ xs, w = .tup xs → ∀ x ∈ xs, ∀ z, x = .str z → z.length ≤ 100000) ∧ (∀ R, GoodF R → w = .tup (R.map rowS) → ∀ ns fs, floorD c_Floor R = .ins c_Floor ns fs → Q .non (sup S0 a (.ins c_Floor ns fs))) ∧
  (∀ b, badW w = some b → Ex ⟨.ref c_BadFloor, some (["part"], [b])⟩ S0)
theorem ok_Floor_init (T : Txt P w K mg base c_BadFloor c_NoCell c_Floor) (D : DfnI K mg "Floor" c_Floor "Floor.__init__" s_Floor_init ["self", "rows"]) (C_spots_of : Cal P w K mg base "spots_of" 1 ["rows", "spots", "sign"] 3 G_spots_of) (C_all_ties : Cal P w K mg base "all_ties" 1 ["spots"] 1 G_all_ties) (C_all_spots : Cal P w K mg base "all_spots" 1 ["rows"] 1 G_all_spots) (C_is_row : Cal P w K mg base "is_row" 1 ["thing"] 1 G_is_row) (C_is_sized : Cal P w K mg base "is_sized" 1 ["thing", "least", "most"] 3 G_is_sized) : CalI P w K mg base "Floor" c_Floor 3 ["self", "rows"] 2 (G_Floor_init c_Floor c_BadFloor) := by
  refine calI_of D sc_Floor_init (G_Floor_init c_Floor c_BadFloor) rfl fun f cdv A outer s H E hr => ?_
  have hu := hr.units
  refine ⟨_, (jss_cons (js_if (jt_not (jt_val (je_cal C_is_sized (hr.mono (by omega)) takes_def (by rfl) (ja_cons (je_var (pv 1)) (ja_cons je_int (ja_cons (je_gi (by rfl) T.g_MOST_ROWS) ja_nil)))))) (jss_one (js_raise rfl takes_def (jr_exc1 T.x_BadFloor (hr.mono (by omega)) (by rfl) (je_un o_neg je_int)))) jss_nil) (jss_cons (js_for passes_def rfl (ji_enum (by rfl) T.n_enumerate (ja_cons (je_var (pv 1)) ja_nil)) (jg_tup (n := 2) rfl (jgs_cons (jg_name (pg_name (i := 2) sc_Floor_init.nd rfl (by first | exact Or.inl rfl | exact Or.inr rfl))) (jgs_cons (jg_name (pg_name (i := 3) sc_Floor_init.nd rfl (by first | exact Or.inl rfl | exact Or.inr rfl))) jgs_nil))) (jss_one (js_if (jt_w (jw_or (jt_not (jt_val (je_cal C_is_row (hr.mono (by omega)) takes_def (by rfl) (ja_cons (je_var (pv 3)) ja_nil)))) (jw_one (jt_cmp (o_ne hu) (je_callB (c_len) (by rfl) T.n_len (by decide +kernel) (ja_cons (je_var (pv 3)) ja_nil)) (je_callB (c_len) (by rfl) T.n_len (by decide +kernel) (ja_cons (je_ix o_ix (je_var (pv 1)) je_int (fun _ _ => rfl)) ja_nil)) (nomark _))))) (jss_one (js_raise rfl takes_def (jr_exc1 T.x_BadFloor (hr.mono (by omega)) (by rfl) (je_var (pv 2))))) jss_nil))) (jss_cons (js_if (jt_not (jt_chain o_le o_le je_int (je_callB (c_sum rfl) (by rfl) T.n_sum (by decide +kernel) (ja_cons (je_frz (jl_comp (own := [("row", 3)]) rfl sc_Floor_init.nd (ji_seq (je_var (pv 1))) (blkOk_by (N := N_Floor_init) (sc := defScope s_Floor_init) (by decide +kernel)) binds_name (fun _ _ _ _ _ => (pg_name (i := 3) sc_Floor_init.nd rfl (by first | exact Or.inl rfl | exact Or.inr rfl))) (fun _ _ _ _ _ => jts_nil) (fun _ _ _ _ _ => (je_meth PySem.F.plainAttrs_str PySem.F.slot_str_count PySem.F.type_str_count m_count (je_var (pv 3)) (ja_cons (je_gs (by rfl) T.g_HOME) ja_nil))))) ja_nil)) (je_gi (by rfl) T.g_MOST_HOMES))) (jss_one (js_raise rfl takes_def (jr_exc1 T.x_BadFloor (hr.mono (by omega)) (by rfl) je_str))) jss_nil) (jss_cons (js_newF (ns0 := []) (ns1 := ["rows"]) T.fd_Floor_rows (by decide +kernel) (by decide +kernel) (by decide) (je_var (pv 0)) (je_var (pv 1))) (jss_cons (js_newF (ns0 := ["rows"]) (ns1 := ["rows", "spots"]) T.fd_Floor_spots (by decide +kernel) (by decide +kernel) (by decide) (je_var (pv 0)) (je_cal C_all_spots (hr.mono (by omega)) takes_def (by rfl) (ja_cons (je_var (pv 1)) ja_nil))) (jss_cons (js_newF (ns0 := ["rows", "spots"]) (ns1 := ["rows", "spots", "ties"]) T.fd_Floor_ties (by decide +kernel) (by decide +kernel) (by decide) (je_var (pv 0)) (je_cal C_all_ties (hr.mono (by omega)) takes_def (by rfl) (ja_cons (je_fld (ns0 := ["rows", "spots"]) (i := 1) T.fd_Floor_spots (fieldAt_of (by decide +kernel)) (je_var (pv 0))) ja_nil))) (jss_cons (js_newF (ns0 := ["rows", "spots", "ties"]) (ns1 := ["rows", "spots", "ties", "rests"]) T.fd_Floor_rests (by decide +kernel) (by decide +kernel) (by decide) (je_var (pv 0)) (je_cal C_spots_of (hr.mono (by omega)) takes_def (by rfl) (ja_cons (je_var (pv 1)) (ja_cons (je_fld (ns0 := ["rows", "spots", "ties"]) (i := 1) T.fd_Floor_spots (fieldAt_of (by decide +kernel)) (je_var (pv 0))) (ja_cons (je_gs (by rfl) T.g_HOME) ja_nil))))) (jss_one (js_newF (ns0 := ["rows", "spots", "ties", "rests"]) (ns1 := ["rows", "spots", "ties", "rests", "stops"]) T.fd_Floor_stops (by decide +kernel) (by decide +kernel) (by decide) (je_var (pv 0)) (je_cal C_spots_of (hr.mono (by omega)) takes_def (by rfl) (ja_cons (je_var (pv 1)) (ja_cons (je_fld (ns0 := ["rows", "spots", "ties", "rests"]) (i := 1) T.fd_Floor_spots (fieldAt_of (by decide +kernel)) (je_var (pv 0))) (ja_cons (je_gs (by rfl) T.g_STATION) ja_nil))))))))))))), fun ws S Q Ex hl g => ?_⟩
  obtain ⟨a, S0, w, rfl, rfl, hn, kw, hz, g1, g2⟩ := g
  walk_at "go"
  refine ⟨w, 1, 12, rfl, kw, ?_⟩
  cases hs : szW w 1 12 with
  | false =>
    walk_at "go"
    refine clX.sub (g2 (.int (-1)) ?_) (sub_sup hn)
    cases w with
    | tup xs =>
      have hs : (decide ((1 : Int) ≤ (xs.length : Int)) && decide ((xs.length : Int) ≤ 12)) = false := hs
      show (if 1 ≤ xs.length ∧ xs.length ≤ 12 then _ else _) = _
      rw [if_neg]
      intro z
      rw [decide_eq_true (by omega), decide_eq_true (by omega)] at hs
      cases hs
    | _ => rfl
  | true =>
    cases w with
    | tup xs =>
      have hs : (decide ((1 : Int) ≤ (xs.length : Int)) && decide ((xs.length : Int) ≤ 12)) = true := hs
      rw [Bool.and_eq_true, decide_eq_true_iff, decide_eq_true_iff] at hs
      have hx1 : 1 ≤ xs.length := by omega
      have hx2 : xs.length ≤ 12 := by omega
      have hz := hz xs rfl
      have g2 : ∀ b, (match badRow xs with
        | some k => some (.int (k : Nat))
        | none => if 1 ≤ homesF (xs.map rowOf) ∧ homesF (xs.map rowOf) ≤ 6 then none else some (.str "homes")) = some b → clX Ex ⟨.ref c_BadFloor, some (["part"], [b])⟩ (sup S0 a (.ins c_Floor [] [])) := fun b e => clX.sub (g2 b (by
          show (if 1 ≤ xs.length ∧ xs.length ≤ 12 then _ else _) = _
          rw [if_pos ⟨hx1, hx2⟩]
          exact e)) (sub_sup hn)
      walk_at "go"
      refine forW_rule (fun i σ S' => ∃ (y2 y3 : Option Dt), σ = [some (.ref a), some (.tup xs), y2, y3] ∧ S' = sup S0 a (.ins c_Floor [] []) ∧ ∀ (j : Nat) (v : Dt), j < i → xs[j]? = some v → (!frowW v || !decide (lenW v = lenW (xs.headD .non))) = false) ⟨none, none, rfl, rfl, fun j v h => absurd h (Nat.not_lt_zero _)⟩ ?_ ?_
      · rintro i u σ S' N ew ⟨y2, y3, rfl, rfl, hok⟩ hN
        obtain ⟨v, ev, rfl⟩ := enumW_get ew
        refine ⟨trivial, ?_⟩
        have hv := List.mem_of_getElem? ev
        walk_at "go"
        refine ⟨v, rfl, pl_tup kw v hv, fun z e => hz v hv z e, ?_⟩
        cases hf : frowW v with
        | false =>
          walk_at "go"
          rw [Nat.zero_add]
          exact g2 _ (by rw [badRow_some ev (by rw [hf]; rfl) hok])
        | true =>
          obtain ⟨h0, h0'⟩ := head_at hx1
          have hf0 : frowW (xs.headD .non) = true := by
            by_cases hi : i = 0
            · subst hi
              rw [h0] at ev
              cases ev
              exact hf
            · have := hok 0 _ (by omega) h0
              rw [Bool.or_eq_false_iff, Bool.not_eq_false'] at this
              exact this.1
          obtain ⟨z, ez, z1, z2, z3, z4, z5, z6⟩ := frowW_of hf
          obtain ⟨z0, ez0, z01, z02, z03, z04, z05, z06⟩ := frowW_of hf0
          have hbad : (!frowW v || !decide (lenW v = lenW (xs.headD .non))) = !decide ((z.length : Int) = (z0.length : Int)) := by
            rw [hf, z4, z04, Bool.not_true, Bool.false_or]
            congr 1
            rw [Bool.eq_iff_iff, decide_eq_true_iff, decide_eq_true_iff]
            omega
          rw [ez0] at h0'
          subst ez
          walk_at "go"
          refine ⟨by show z.length ≤ 16777216; omega, ?_⟩
          walk_at "go"
          rw [h0']
          walk_at "go"
          refine ⟨by show z0.length ≤ 16777216; omega, ?_⟩
          walk_at "go"
          cases hd : decide ((z.length : Int) = (z0.length : Int)) with
          | true =>
            rw [hd] at hbad
            walk_at "go"
            refine hN _ _ ⟨_, _, rfl, rfl, fun j u hj e => ?_⟩
            by_cases hji : j = i
            · subst hji
              rw [ev] at e
              cases e
              exact hbad
            · exact hok j u (by omega) e
          | false =>
            rw [hd] at hbad
            walk_at "go"
            rw [Nat.zero_add]
            exact g2 _ (by rw [badRow_some ev hbad hok])
      · rintro σ S' ⟨y2, y3, rfl, rfl, hok⟩
        refine ⟨trivial, ?_⟩
        rw [enumW_len] at hok
        have hok : ∀ (j : Nat) (v : Dt), xs[j]? = some v → (!frowW v || !decide (lenW v = lenW (xs.headD .non))) = false := fun j v e => hok j v (List.getElem?_eq_some_iff.mp e).1 e
        have fr : ∀ w ∈ xs, frowW w = true := fun w hw => by
          obtain ⟨j, hj, e⟩ := List.mem_iff_getElem.mp hw
          have := hok j w (by rw [List.getElem?_eq_getElem hj, e])
          rw [Bool.or_eq_false_iff, Bool.not_eq_false'] at this
          exact this.1
        have exs := rows_of fr
        have hg := good_of hx1 hx2 hok
        have g3 := g2
        rw [badRow_none hok] at g3
        clear g2
        have hl12 : ∀ r ∈ xs.map rowOf, r.length ≤ 12 := fun r hr => by
          obtain ⟨w, hw, rfl⟩ := List.mem_map.mp hr
          obtain ⟨z, _, _, z2, _, _, _, z6⟩ := frowW_of (fr w hw)
          omega
        generalize xs.map rowOf = R at exs hg g3 hl12
        subst exs
        rw [List.length_map] at hx2
        walk_at "go"
        refine comp_all rowS (fun r => .int (r.count 72 : Nat)) R trivial (fun r hr => ?_) (by show _ ≤ 16777216; omega) ?_
        · refine ⟨_, rfl, fun k q => ?_⟩
          have := hl12 r hr
          walk_at "go"
          rw [count_row]
          exact q
        · walk_at "go"
          refine ⟨R.map fun r => ((r.count 72 : Nat) : Int), by rw [List.map_map]; rfl, ?_⟩
          rw [sum_count]
          walk_at "go"
          by_cases o1 : 1 ≤ homesF R
          · rw [decide_eq_true (show (1 : Int) ≤ (homesF R : Nat) by omega)]
            walk_at "go"
            by_cases o2 : homesF R ≤ 6
            · rw [decide_eq_true (show ((homesF R : Nat) : Int) ≤ 6 by omega)]
              have hR := hg o1 o2
              walk_at "go"
              refine ⟨R, rfl, hR, ?_⟩
              walk_at "go"
              refine ⟨spotsF R, rfl, spots_nodup R, spots_len hR, ?_⟩
              walk_at "go"
              refine ⟨R, 72, by rw [← strH], hR, ?_⟩
              walk_at "go"
              refine ⟨R, 83, by rw [← strS], hR, ?_⟩
              walk_at "go"
              simp only [sup_sup]
              exact clo.of (g1 R hR rfl _ _ rfl)
            · rw [decide_eq_false (show ¬ ((homesF R : Nat) : Int) ≤ 6 by omega)]
              walk_at "go"
              exact g3 _ (by rw [if_neg (fun z => o2 z.2)])
          · rw [decide_eq_false (show ¬ (1 : Int) ≤ (homesF R : Nat) by omega)]
            walk_at "go"
            exact g3 _ (by rw [if_neg (fun z => o1 z.1)])
    | _ => cases hs
/-! ### _law_cells -/
def G__law_cells : Fw := fun ws S Q _ => ∃ R : Rws, ws = [.tup (R.map rowS)] ∧ GoodF R ∧ Q (.lst ((spotsF R).map spD)) S
theorem ok__law_cells (T : Txt P w K mg base c_BadFloor c_NoCell c_Floor) (D : Dfn2 K mg "_law_cells" "_law_cells" s__law_cells ["_law_rows_here"])  : Cal P w K mg base "_law_cells" 1 ["_law_rows_here"] 1 G__law_cells := by
  refine cal_of D sc__law_cells G__law_cells rfl fun f cdv A outer s H E hr => ?_
  have hu := hr.units
  refine ⟨_, (jss_cons (js_set (je_frz (jl_lst ja_nil)) (pg_name (i := 1) sc__law_cells.nd rfl (by first | exact Or.inl rfl | exact Or.inr rfl))) (jss_cons (js_for passes_def rfl (ji_rng1 (by rfl) T.n_range (ja_cons (je_callB (c_len) (by rfl) T.n_len (by decide +kernel) (ja_cons (je_var (pv 0)) ja_nil)) ja_nil)) (jg_name (pg_name (i := 2) sc__law_cells.nd rfl (by first | exact Or.inl rfl | exact Or.inr rfl))) (jss_one (js_set (je_op o_add (je_var (pv 1)) (je_frz (jl_comp (own := [("_law_column", 3)]) rfl sc__law_cells.nd (ji_rng1 (by rfl) T.n_range (ja_cons (je_callB (c_len) (by rfl) T.n_len (by decide +kernel) (ja_cons (je_ix o_ix (je_var (pv 0)) je_int (fun _ _ => rfl)) ja_nil)) ja_nil)) (blkOk_by (N := N__law_cells) (sc := defScope s__law_cells) (by decide +kernel)) binds_name (fun _ _ _ _ _ => (pg_name (i := 3) sc__law_cells.nd rfl (by first | exact Or.inl rfl | exact Or.inr rfl))) (fun _ _ _ _ _ => (jts_one (jt_cmp (o_ne hu) (je_ix o_ix (je_ix o_ix (je_var (pv 0)) (je_var (pv 2)) (fun _ _ => rfl)) (je_var (pv 3)) (fun _ _ => rfl)) je_str (nomark _)))) (fun _ _ _ _ _ => (je_tup (ja_cons (je_var (pv 2)) (ja_cons (je_var (pv 3)) ja_nil))))))) (pg_name (i := 1) sc__law_cells.nd rfl (by first | exact Or.inl rfl | exact Or.inr rfl))))) (jss_one (js_ret (je_var (pv 1)))))), fun ws S Q Ex hl g => ?_⟩
  obtain ⟨R, rfl, hR, g⟩ := g
  walk_at "go"
  have h2 := hR.h2
  refine ⟨⟨by omega, by rw [List.length_map]; omega⟩, ?_⟩
  rw [List.length_map, Int.toNat_natCast, rangeW_0]
  refine forW_rule (fun i σ S' => ∃ (y2 y3 : Option Dt), σ = [some (.tup (R.map rowS)), some (.lst (((R.zipIdx.take i).flatMap fun p => rowSp p.2 p.1).map spD)), y2, none] ∧ S' = S) ⟨none, none, rfl, rfl⟩ ?_ ?_
  · rintro i w σ S' N ew ⟨y2, y3, rfl, rfl⟩ hN
    obtain ⟨j, ej, rfl⟩ := map_get ew
    obtain ⟨hi, rfl⟩ : i < R.length ∧ j = i := by
      obtain ⟨a, b⟩ := List.getElem?_eq_some_iff.mp ej
      rw [List.length_range] at a
      rw [List.getElem_range] at b
      exact ⟨a, b.symm⟩
    have er : R.zipIdx[j]? = some (R.getD j [], j) := by
      rw [List.getElem?_zipIdx, List.getElem?_eq_getElem hi, getD_get hi]
      simp
    have h0 : 0 < R.length := by omega
    have hw0 : (R.getD 0 []).length = wideF R := hR.wl _ (getD_mem h0)
    have hwj : (R.getD j []).length = wideF R := hR.wl _ (getD_mem hi)
    have hw := hR.w2
    have a0 : atI (R.map rowS) 0 = some (rowS (R.getD 0 [])) := by
      have := atI_map (f := rowS) (c := 0) [] h0
      exact this
    refine ⟨trivial, ?_⟩
    walk_at "go"
    rw [a0]
    walk_at "go"
    refine ⟨by rw [rowS_len]; show _ ≤ 16777216; omega, ⟨by omega, by rw [rowS_len]; omega⟩, ?_⟩
    rw [rowS_len, Int.toNat_natCast, rangeW_0]
    refine comp_xs (fun i : Nat => .int (i : Nat)) (fun k => !decide ((R.getD j []).getD k 0 = 35)) (fun k => spD (j, k)) trivial _ [] (fun k hk => ?_) ?_ ?_
    · rw [List.mem_range, hw0, ← hwj] at hk
      refine ⟨_, rfl, fun k q => ?_, fun _ k q => ?_⟩
      · walk_at "go"
        rw [atI_map [] hi]
        walk_at "go"
        refine ⟨by rw [rowS_len]; show _ ≤ 16777216; omega, ?_⟩
        rw [row_at hk]
        walk_at "go"
        rw [show ∀ c : Nat, decide (c = 35) = decide ((⟨#[c]⟩ : Str) = ("#" : Str)) from fun c => by rw [Bool.eq_iff_iff, decide_eq_true_iff, decide_eq_true_iff, strWall, str_one]] at q
        exact q
      · walk_at "go"
        exact q
    · rw [List.length_nil, List.length_range]
      show _ ≤ 16777216
      omega
    · walk_at "go"
      rw [List.nil_append, hw0, ← hwj, show (((List.range (R.getD j []).length).filter fun k => !decide ((R.getD j []).getD k 0 = 35)).map fun k => spD (j, k)) = (rowSp j (R.getD j [])).map spD by rw [rowSp_eq, List.map_map]; rfl]
      have h3 := spots_take R (j + 1)
      have h4 := spots_len hR
      rw [spots_more er, List.length_append] at h3
      refine ⟨by rw [List.length_map, List.length_map]; show _ ≤ 16777216; omega, ?_⟩
      walk_at "go"
      rw [← List.map_append, ← spots_more er]
      exact hN _ _ ⟨_, none, rfl, rfl⟩
  · rintro σ S' ⟨y2, y3, rfl, rfl⟩
    refine ⟨trivial, ?_⟩
    rw [List.length_map, List.length_range, List.take_of_length_le (by rw [List.length_zipIdx]; exact Nat.le_refl _)]
    walk_at "go"
    exact clo.of g
/-! ### _law_near -/
def G__law_near : Fw := fun ws S Q _ => ∃ (sp : List (Nat × Nat)) (c : Nat), ws = [.lst (sp.map spD), .int c] ∧ c < sp.length ∧ sp.length ≤ 144 ∧ Q (.lst (lotW (tieF sp (sp.getD c (0, 0))))) S
theorem ok__law_near (T : Txt P w K mg base c_BadFloor c_NoCell c_Floor) (D : Dfn2 K mg "_law_near" "_law_near" s__law_near ["_law_spots", "_law_cell"])  : Cal P w K mg base "_law_near" 1 ["_law_spots", "_law_cell"] 2 G__law_near := by
  refine cal_of D sc__law_near G__law_near rfl fun f cdv A outer s H E hr => ?_
  have hu := hr.units
  refine ⟨_, (jss_cons (js_asg (je_ix o_ix (je_var (pv 0)) (je_var (pv 1)) (fun _ _ => rfl)) (jg_tup (n := 2) rfl (jgs_cons (jg_name (pg_name (i := 2) sc__law_near.nd rfl (by first | exact Or.inl rfl | exact Or.inr rfl))) (jgs_cons (jg_name (pg_name (i := 3) sc__law_near.nd rfl (by first | exact Or.inl rfl | exact Or.inr rfl))) jgs_nil)))) (jss_cons (js_set (je_ref (jl_lst ja_nil)) (pg_name (i := 4) sc__law_near.nd rfl (by first | exact Or.inl rfl | exact Or.inr rfl))) (jss_cons (js_for passes_def rfl (ji_rng1 (by rfl) T.n_range (ja_cons (je_callB (c_len) (by rfl) T.n_len (by decide +kernel) (ja_cons (je_var (pv 0)) ja_nil)) ja_nil)) (jg_name (pg_name (i := 5) sc__law_near.nd rfl (by first | exact Or.inl rfl | exact Or.inr rfl))) (jss_one (js_if (jt_cmp (o_eq hu) (je_op o_add (je_callB (c_abs) (by rfl) T.n_abs (by decide +kernel) (ja_cons (je_op o_sub (je_ix o_ix (je_ix o_ix (je_var (pv 0)) (je_var (pv 5)) (fun _ _ => rfl)) je_int (fun _ _ => rfl)) (je_var (pv 2))) ja_nil)) (je_callB (c_abs) (by rfl) T.n_abs (by decide +kernel) (ja_cons (je_op o_sub (je_ix o_ix (je_ix o_ix (je_var (pv 0)) (je_var (pv 5)) (fun _ _ => rfl)) je_int (fun _ _ => rfl)) (je_var (pv 3))) ja_nil))) je_int (nomark _)) (jss_one (js_drop (je_meth PySem.F.plainAttrs_list PySem.F.slot_list_append PySem.F.type_list_append m_append (je_var (pv 4)) (ja_cons (je_var (pv 5)) ja_nil)))) jss_nil))) (jss_one (js_ret (je_var (pv 4))))))), fun ws S Q Ex hl g => ?_⟩
  obtain ⟨sp, c, rfl, hc, hl, g⟩ := g
  walk_at "go"
  rw [atI_map (0, 0) hc]
  walk_at "go"
  intro p hp
  walk_at "go"
  rw [List.length_map, Int.toNat_natCast, rangeW_0]
  refine ⟨⟨by omega, by omega⟩, ?_⟩
  generalize hp0 : sp.getD c (0, 0) = p0 at g
  refine forW_rule (fun i σ S' => ∃ (y5 : Option Dt), σ = [some (.lst (sp.map spD)), some (.int (c : Nat)), some (.int (p0.1 : Nat)), some (.int (p0.2 : Nat)), some (.ref p), y5] ∧ S' = sup S p (.lst (lotW (((List.range sp.length).take i).filter fun o => adjP p0 (sp.getD o (0, 0)))))) ⟨none, rfl, rfl⟩ ?_ ?_
  · rintro i w σ S' N ew ⟨y5, rfl, rfl⟩ hN
    obtain ⟨j, ej, rfl⟩ := map_get ew
    obtain ⟨hi, rfl⟩ : i < sp.length ∧ j = i := by
      obtain ⟨a, b⟩ := List.getElem?_eq_some_iff.mp ej
      rw [List.length_range] at a
      rw [List.getElem_range] at b
      exact ⟨a, b.symm⟩
    have hN : N [some (.lst (sp.map spD)), some (.int (c : Nat)), some (.int (p0.1 : Nat)), some (.int (p0.2 : Nat)), some (.ref p), some (.int (j : Nat))] (sup S p (.lst (lotW ((((List.range sp.length).take j).filter fun o => adjP p0 (sp.getD o (0, 0))) ++ (if adjP p0 (sp.getD j (0, 0)) = true then [j] else []))))) := by
      refine hN _ _ ⟨_, rfl, ?_⟩
      rw [take_succ ej, List.filter_append]
      congr 3
      by_cases h : adjP p0 (sp.getD j (0, 0)) = true
      · rw [if_pos h, List.filter_cons_of_pos (p := fun o => adjP p0 (sp.getD o (0, 0))) h, List.filter_nil]
      · rw [if_neg h, List.filter_cons_of_neg (p := fun o => adjP p0 (sp.getD o (0, 0))) h, List.filter_nil]
    have hfl : (((List.range sp.length).take j).filter fun o => adjP p0 (sp.getD o (0, 0))).length ≤ 144 := by
      refine Nat.le_trans (List.length_filter_le _ _) ?_
      rw [List.length_take, List.length_range]
      omega
    generalize (((List.range sp.length).take j).filter fun o => adjP p0 (sp.getD o (0, 0))) = L at hN hfl
    refine ⟨trivial, ?_⟩
    walk_at "go"
    rw [atI_map (0, 0) hi]
    walk_at "go"
    rw [atI_map (0, 0) hi]
    walk_at "go"
    rw [← adj_abs p0 (sp.getD j (0, 0))]
    cases h : adjP p0 (sp.getD j (0, 0)) with
    | true =>
      rw [h, if_pos rfl] at hN
      walk_at "go"
      refine ⟨tyW_at sup_same, ?_⟩
      walk_at "go"
      refine ⟨by rw [lotW_len]; show _ < 16777216; omega, ?_⟩
      walk_at "go"
      rw [sup_sup]
      unfold lotW at hN ⊢
      rw [List.map_append] at hN
      exact hN
    | false =>
      rw [h, if_neg Bool.false_ne_true, List.append_nil] at hN
      walk_at "go"
      exact hN
  · rintro σ S' ⟨y5, rfl, rfl⟩
    refine ⟨trivial, ?_⟩
    rw [List.length_map, List.take_length]
    walk_at "go"
    exact clo.frzL hp g
/-! ### _law_of_sign -/
def G__law_of_sign : Fw := fun ws S Q _ => ∃ (R : Rws) (s : Nat), ws = [.tup (R.map rowS), .lst ((spotsF R).map spD), .str ⟨#[s]⟩] ∧ GoodF R ∧ Q (.lst (lotW (ofF R s))) S
theorem ok__law_of_sign (T : Txt P w K mg base c_BadFloor c_NoCell c_Floor) (D : Dfn2 K mg "_law_of_sign" "_law_of_sign" s__law_of_sign ["_law_rows_here", "_law_spots", "_law_sign"])  : Cal P w K mg base "_law_of_sign" 1 ["_law_rows_here", "_law_spots", "_law_sign"] 3 G__law_of_sign := by
  refine cal_of D sc__law_of_sign G__law_of_sign rfl fun f cdv A outer s H E hr => ?_
  have hu := hr.units
  refine ⟨_, (jss_one (js_ret (je_frz (jl_comp (own := [("_law_cell", 3)]) rfl sc__law_of_sign.nd (ji_rng1 (by rfl) T.n_range (ja_cons (je_callB (c_len) (by rfl) T.n_len (by decide +kernel) (ja_cons (je_var (pv 1)) ja_nil)) ja_nil)) (blkOk_by (N := N__law_of_sign) (sc := defScope s__law_of_sign) (by decide +kernel)) binds_name (fun _ _ _ _ _ => (pg_name (i := 3) sc__law_of_sign.nd rfl (by first | exact Or.inl rfl | exact Or.inr rfl))) (fun _ _ _ _ _ => (jts_one (jt_cmp (o_eq hu) (je_ix o_ix (je_ix o_ix (je_var (pv 0)) (je_ix o_ix (je_ix o_ix (je_var (pv 1)) (je_var (pv 3)) (fun _ _ => rfl)) je_int (fun _ _ => rfl)) (fun _ _ => rfl)) (je_ix o_ix (je_ix o_ix (je_var (pv 1)) (je_var (pv 3)) (fun _ _ => rfl)) je_int (fun _ _ => rfl)) (fun _ _ => rfl)) (je_var (pv 2)) (nomark _)))) (fun _ _ _ _ _ => (je_var (pv 3))))))), fun ws S Q Ex hl g => ?_⟩
  obtain ⟨R, s', rfl, hR, g⟩ := g
  have hl := spots_len hR
  walk_at "go"
  rw [List.length_map, Int.toNat_natCast, rangeW_0]
  refine ⟨⟨by omega, by omega⟩, ?_⟩
  refine comp_xs (fun i : Nat => .int (i : Nat)) (fun k => decide (signF R ((spotsF R).getD k (0, 0)) = s')) (fun k => .int (k : Nat)) trivial _ [] (fun k hk => ?_) ?_ ?_
  · rw [List.mem_range] at hk
    have hs := mem_spots.mp (getD_mem (d := (0, 0)) hk)
    have hw : (R.getD ((spotsF R).getD k (0, 0)).1 []).length ≤ 12 := by
      rw [hR.wl _ (getD_mem hs.1)]
      exact hR.w2
    refine ⟨_, rfl, fun k q => ?_, fun _ k q => ?_⟩
    · walk_at "go"
      rw [atI_map (0, 0) hk]
      walk_at "go"
      rw [atI_map [] hs.1]
      walk_at "go"
      rw [atI_map (0, 0) hk]
      walk_at "go"
      refine ⟨by rw [rowS_len]; show _ ≤ 16777216; omega, ?_⟩
      rw [row_at hs.2.1]
      walk_at "go"
      rw [show decide (signF R ((spotsF R).getD _ (0, 0)) = s') = decide ((⟨#[_]⟩ : Str) = ⟨#[s']⟩) by rw [Bool.eq_iff_iff, decide_eq_true_iff, decide_eq_true_iff, str_one]] at q
      exact q
    · walk_at "go"
      exact q
  · rw [List.length_nil, List.length_range]
    show _ ≤ 16777216
    omega
  · walk_at "go"
    unfold ofF lotW at g
    rw [range_filter (0, 0) (spotsF R) (fun p => decide (signF R p = s'))] at g
    exact clo.of g
/-! ### _law_plan_of -/
def planD (R : Rws) : Dt := .tup [.lst ((spotsF R).map spD), .lst ((tiesF (spotsF R)).map fun l => .lst (lotW l)), .lst (lotW (ofF R 72)), .lst (lotW (ofF R 83))]
def G__law_plan_of : Fw := fun ws S Q _ => ∃ R : Rws, ws = [.tup (R.map rowS)] ∧ GoodF R ∧ Q (planD R) S
theorem ok__law_plan_of (T : Txt P w K mg base c_BadFloor c_NoCell c_Floor) (D : Dfn2 K mg "_law_plan_of" "_law_plan_of" s__law_plan_of ["_law_rows_here"]) (C__law_of_sign : Cal P w K mg base "_law_of_sign" 1 ["_law_rows_here", "_law_spots", "_law_sign"] 3 G__law_of_sign) (C__law_near : Cal P w K mg base "_law_near" 1 ["_law_spots", "_law_cell"] 2 G__law_near) (C__law_cells : Cal P w K mg base "_law_cells" 1 ["_law_rows_here"] 1 G__law_cells) : Cal P w K mg base "_law_plan_of" 2 ["_law_rows_here"] 1 G__law_plan_of := by
  refine cal_of D sc__law_plan_of G__law_plan_of rfl fun f cdv A outer s H E hr => ?_
  have hu := hr.units
  refine ⟨_, (jss_cons (js_set (je_cal C__law_cells (hr.mono (by omega)) takes_def (by rfl) (ja_cons (je_var (pv 0)) ja_nil)) (pg_name (i := 1) sc__law_plan_of.nd rfl (by first | exact Or.inl rfl | exact Or.inr rfl))) (jss_cons (js_lcF (i := 2) (own := [("_law_cell", 3)]) rfl sc__law_plan_of.nd rfl rfl (ji_rng1 (by rfl) T.n_range (ja_cons (je_callB (c_len) (by rfl) T.n_len (by decide +kernel) (ja_cons (je_var (pv 1)) ja_nil)) ja_nil)) (blkOk_by (N := N__law_plan_of) (sc := defScope s__law_plan_of) (by decide +kernel)) binds_name (fun _ _ _ _ _ => (pg_name (i := 3) sc__law_plan_of.nd rfl (by first | exact Or.inl rfl | exact Or.inr rfl))) (fun _ _ _ _ _ => jts_nil) (fun _ _ _ _ _ => (je_cal C__law_near (hr.mono (by omega)) takes0 (by rfl) (ja_cons (je_var (pv 1)) (ja_cons (je_var (pv 3)) ja_nil))))) (jss_one (js_ret (je_tup (ja_cons (je_var (pv 1)) (ja_cons (je_var (pv 2)) (ja_cons (je_cal C__law_of_sign (hr.mono (by omega)) takes_def (by rfl) (ja_cons (je_var (pv 0)) (ja_cons (je_var (pv 1)) (ja_cons je_str ja_nil)))) (ja_cons (je_cal C__law_of_sign (hr.mono (by omega)) takes_def (by rfl) (ja_cons (je_var (pv 0)) (ja_cons (je_var (pv 1)) (ja_cons je_str ja_nil)))) ja_nil))))))))), fun ws S Q Ex hl g => ?_⟩
  obtain ⟨R, rfl, hR, g⟩ := g
  walk_at "go"
  refine ⟨R, rfl, hR, ?_⟩
  have hl := spots_len hR
  walk_at "go"
  rw [List.length_map, Int.toNat_natCast, rangeW_0]
  refine ⟨⟨by omega, by omega⟩, ?_⟩
  refine comp_all (fun i : Nat => .int (i : Nat)) (fun k => .lst (lotW (tieF (spotsF R) ((spotsF R).getD k (0, 0))))) (List.range (spotsF R).length) trivial (fun k hk => ?_) ?_ ?_
  · rw [List.mem_range] at hk
    refine ⟨_, rfl, fun k q => ?_⟩
    walk_at "go"
    exact ⟨spotsF R, _, rfl, hk, hl, q⟩
  · rw [List.length_range]
    show _ ≤ 16777216
    omega
  · walk_at "go"
    refine ⟨R, 72, by rw [← strH], hR, ?_⟩
    walk_at "go"
    refine ⟨R, 83, by rw [← strS], hR, ?_⟩
    walk_at "go"
    have e : (List.range (spotsF R).length).map (fun k => Dt.lst (lotW (tieF (spotsF R) ((spotsF R).getD k (0, 0))))) = (tiesF (spotsF R)).map fun l => .lst (lotW l) := by
      unfold tiesF
      rw [List.map_map]
      exact range_map (0, 0) (spotsF R) (fun p => Dt.lst (lotW (tieF (spotsF R) p)))
    rw [e]
    exact clo.of g
/-! ### _law_is_integer -/
def G__law_is_integer : Fw := fun ws S Q _ => ∃ w, ws = [w] ∧ kn S w ∧ Q (.bl (isI w)) S
theorem ok__law_is_integer (T : Txt P w K mg base c_BadFloor c_NoCell c_Floor) (D : Dfn2 K mg "_law_is_integer" "_law_is_integer" s__law_is_integer ["_law_thing"])  : Cal P w K mg base "_law_is_integer" 1 ["_law_thing"] 1 G__law_is_integer := by
  refine cal_of D sc__law_is_integer G__law_is_integer rfl fun f cdv A outer s H E hr => ?_
  have hu := hr.units
  refine ⟨_, (jss_one (js_ret (je_and (je_callB (c_isi) (by rfl) T.n_isinstance (by decide +kernel) (ja_cons (je_var (pv 0)) (ja_cons (je_bty (T := "int") (by rfl) T.n_int (by decide +kernel)) ja_nil))) (je_one (je_not (je_callB (c_isi) (by rfl) T.n_isinstance (by decide +kernel) (ja_cons (je_var (pv 0)) (ja_cons (je_bty (T := "bool") (by rfl) T.n_bool (by decide +kernel)) ja_nil)))))))), fun ws S Q Ex hl g => ?_⟩
  obtain ⟨w, rfl, ⟨t, kt⟩, g⟩ := g
  walk_at "dn"
  simp only [kt, kI kt, kB kt]
  have e : clo Q (.bl (isI w)) S := clo.of g
  cases w <;> simpa [isI, isB] using e
/-! ### _law_same -/
def G__law_same (d : Nat) : Fw := fun ws S Q _ => ∃ a b, ws = [a, b] ∧ pl a = true ∧ nice b = true ∧ dep b < d ∧ Q (.bl (sameW a b)) S
theorem ok__law_same (T : Txt P w K mg base c_BadFloor c_NoCell c_Floor) (D : Dfn2 K mg "_law_same" "_law_same" s__law_same ["_law_actual", "_law_due"]) (C__law_is_integer : Cal P w K mg base "_law_is_integer" 1 ["_law_thing"] 1 G__law_is_integer) : ∀ d : Nat, Cal P w K mg base "_law_same" (d + 1) ["_law_actual", "_law_due"] 2 (G__law_same d)
  | 0 => (cal_false D).imp fun ws S Q Ex hl g => by
      obtain ⟨a, b, _, _, _, h, _⟩ := g
      exact absurd h (Nat.not_lt_zero _)
  | d + 1 => by
    have C__law_same := ok__law_same T D C__law_is_integer d
    refine cal_of D sc__law_same (G__law_same (d + 1)) rfl fun f cdv A outer s H E hr => ?_
    have hu := hr.units
    refine ⟨_, (jss_cons (js_if (jt_cmp o_is (je_var (pv 1)) je_non (nomark _)) (jss_one (js_ret (je_cmp o_is (je_var (pv 0)) je_non (nomark _)))) jss_nil) (jss_cons (js_if (jt_cmp o_is (je_var (pv 1)) je_bl (nomark _)) (jss_one (js_ret (je_cmp o_is (je_var (pv 0)) je_bl (nomark _)))) jss_nil) (jss_cons (js_if (jt_cmp o_is (je_var (pv 1)) je_bl (nomark _)) (jss_one (js_ret (je_cmp o_is (je_var (pv 0)) je_bl (nomark _)))) jss_nil) (jss_cons (js_if (jt_val (je_callB (c_isi) (by rfl) T.n_isinstance (by decide +kernel) (ja_cons (je_var (pv 1)) (ja_cons (je_bty (T := "int") (by rfl) T.n_int (by decide +kernel)) ja_nil)))) (jss_one (js_ret (je_and (je_cal C__law_is_integer (hr.mono (by omega)) takes_def (by rfl) (ja_cons (je_var (pv 0)) ja_nil)) (je_one (je_cmp (o_eq hu) (je_var (pv 0)) (je_var (pv 1)) (nomark _)))))) jss_nil) (jss_cons (js_if (jt_val (je_callB (c_isi) (by rfl) T.n_isinstance (by decide +kernel) (ja_cons (je_var (pv 1)) (ja_cons (je_bty (T := "str") (by rfl) T.n_str (by decide +kernel)) ja_nil)))) (jss_one (js_ret (je_and (je_callB (c_isi) (by rfl) T.n_isinstance (by decide +kernel) (ja_cons (je_var (pv 0)) (ja_cons (je_bty (T := "str") (by rfl) T.n_str (by decide +kernel)) ja_nil))) (je_one (je_cmp (o_eq hu) (je_var (pv 0)) (je_var (pv 1)) (nomark _)))))) jss_nil) (jss_cons (js_if (jt_w (jw_or (jt_cmp (o_ne hu) (je_callB (c_isi) (by rfl) T.n_isinstance (by decide +kernel) (ja_cons (je_var (pv 1)) (ja_cons (je_bty (T := "tuple") (by rfl) T.n_tuple (by decide +kernel)) ja_nil))) (je_callB (c_isi) (by rfl) T.n_isinstance (by decide +kernel) (ja_cons (je_var (pv 0)) (ja_cons (je_bty (T := "tuple") (by rfl) T.n_tuple (by decide +kernel)) ja_nil))) (nomark _)) (jw_one (jt_cmp (o_ne hu) (je_callB (c_isi) (by rfl) T.n_isinstance (by decide +kernel) (ja_cons (je_var (pv 1)) (ja_cons (je_bty (T := "list") (by rfl) T.n_list (by decide +kernel)) ja_nil))) (je_callB (c_isi) (by rfl) T.n_isinstance (by decide +kernel) (ja_cons (je_var (pv 0)) (ja_cons (je_bty (T := "list") (by rfl) T.n_list (by decide +kernel)) ja_nil))) (nomark _))))) (jss_one (js_ret je_bl)) jss_nil) (jss_cons (js_if (jt_cmp (o_ne hu) (je_callB (c_len) (by rfl) T.n_len (by decide +kernel) (ja_cons (je_var (pv 0)) ja_nil)) (je_callB (c_len) (by rfl) T.n_len (by decide +kernel) (ja_cons (je_var (pv 1)) ja_nil)) (nomark _)) (jss_one (js_ret je_bl)) jss_nil) (jss_cons (js_for passes_def rfl (ji_zip (by rfl) T.n_zip (ja_cons (je_var (pv 0)) (ja_cons (je_var (pv 1)) ja_nil))) (jg_tup (n := 2) rfl (jgs_cons (jg_name (pg_name (i := 2) sc__law_same.nd rfl (by first | exact Or.inl rfl | exact Or.inr rfl))) (jgs_cons (jg_name (pg_name (i := 3) sc__law_same.nd rfl (by first | exact Or.inl rfl | exact Or.inr rfl))) jgs_nil))) (jss_one (js_if (jt_not (jt_val (je_cal C__law_same (hr.mono (by omega)) takes_def (by rfl) (ja_cons (je_var (pv 2)) (ja_cons (je_var (pv 3)) ja_nil))))) (jss_one (js_ret je_bl)) jss_nil))) (jss_one (js_ret je_bl)))))))))), fun ws S Q Ex hl g => ?_⟩
    obtain ⟨a, b, rfl, ha, hb, hd, g⟩ := g
    obtain ⟨t, kt⟩ := kn_pl (S := S) ha
    have e : clo Q (.bl (sameW a b)) S := clo.of g
    cases b with
    | non => walk_at "nx"; unfold sameW at e; exact e
    | bl b =>
      unfold sameW at e
      cases b <;> (walk_at "nx"; exact e)
    | int i =>
      walk_at "nx"
      refine ⟨rfl, a, rfl, ⟨t, kt⟩, ?_⟩
      cases a <;> (walk_at "nx"; unfold sameW at e; exact e)
    | str x =>
      cases a <;> first | exact Bool.noConfusion (show false = true from ha) | (walk_at "nx"; unfold sameW at e; exact e)
    | tup bs =>
      cases a with
      | tup as =>
        walk_at "nx"
        unfold sameW at e
        by_cases h : (as.length : Int) = (bs.length : Int)
        · rw [decide_eq_true h]
          walk_at "nx"
          have hz : as.length = bs.length := by omega
          refine forW_rule (fun i σ S' => ∃ y1 y2, S' = S ∧ σ = [some (.tup as), some (.tup bs), y1, y2] ∧ ∀ (j : Nat) (x y : Dt), j < i → as[j]? = some x → bs[j]? = some y → sameW x y = true) ⟨_, _, rfl, rfl, fun j x y h => absurd h (Nat.not_lt_zero _)⟩ ?_ ?_
          · rintro i w σ S' N ew ⟨y1, y2, rfl, rfl, hj⟩ hN
            obtain ⟨x, y, ex, ey, rfl⟩ := zipW_get ew
            refine ⟨trivial, ?_⟩
            walk_at "nx"
            refine ⟨rfl, ?_⟩
            walk_at "nx"
            have hnb := niceL_at (show nice.niceL bs = true from by unfold nice at hb; exact hb) ey
            have hdd : 1 + dep.depL bs < d + 1 := by unfold dep at hd; exact hd
            refine ⟨rfl, x, y, rfl, pl_tup ha x (List.mem_of_getElem? ex), hnb.1, by omega, ?_⟩
            cases hs : sameW x y with
            | true =>
              walk_at "nx"
              refine hN _ _ ⟨some x, some y, rfl, rfl, fun j x' y' hj' e1 e2 => ?_⟩
              by_cases ej : j = i
              · subst ej
                rw [ex] at e1
                rw [ey] at e2
                cases e1
                cases e2
                exact hs
              · exact hj j x' y' (by omega) e1 e2
            | false =>
              walk_at "nx"
              rw [sameL_at ex ey hs] at e
              exact e
          · rintro σ S' ⟨y1, y2, rfl, rfl, hj⟩
            refine ⟨trivial, ?_⟩
            walk_at "nx"
            rw [sameL_all hz fun i x y e1 e2 => hj i x y (by
              have := (List.getElem?_eq_some_iff.mp e1).1
              rw [zipW_len]
              omega) e1 e2] at e
            exact e
        · rw [decide_eq_false h]
          walk_at "nx"
          rw [sameL_len fun z => h (by rw [z])] at e
          exact e
      | _ => first | exact Bool.noConfusion (show false = true from ha) | (walk_at "nx"; unfold sameW at e; exact e)
    | lst bs =>
      cases a with
      | lst as =>
        walk_at "nx"
        unfold sameW at e
        by_cases h : (as.length : Int) = (bs.length : Int)
        · rw [decide_eq_true h]
          walk_at "nx"
          have hz : as.length = bs.length := by omega
          refine forW_rule (fun i σ S' => ∃ y1 y2, S' = S ∧ σ = [some (.lst as), some (.lst bs), y1, y2] ∧ ∀ (j : Nat) (x y : Dt), j < i → as[j]? = some x → bs[j]? = some y → sameW x y = true) ⟨_, _, rfl, rfl, fun j x y h => absurd h (Nat.not_lt_zero _)⟩ ?_ ?_
          · rintro i w σ S' N ew ⟨y1, y2, rfl, rfl, hj⟩ hN
            obtain ⟨x, y, ex, ey, rfl⟩ := zipW_get ew
            refine ⟨trivial, ?_⟩
            walk_at "nx"
            refine ⟨rfl, ?_⟩
            walk_at "nx"
            have hnb := niceL_at (show nice.niceL bs = true from by unfold nice at hb; exact hb) ey
            have hdd : 1 + dep.depL bs < d + 1 := by unfold dep at hd; exact hd
            refine ⟨rfl, x, y, rfl, plL_all (show pl.plL as = true from by unfold pl at ha; exact ha) x (List.mem_of_getElem? ex), hnb.1, by omega, ?_⟩
            cases hs : sameW x y with
            | true =>
              walk_at "nx"
              refine hN _ _ ⟨some x, some y, rfl, rfl, fun j x' y' hj' e1 e2 => ?_⟩
              by_cases ej : j = i
              · subst ej
                rw [ex] at e1
                rw [ey] at e2
                cases e1
                cases e2
                exact hs
              · exact hj j x' y' (by omega) e1 e2
            | false =>
              walk_at "nx"
              rw [sameL_at ex ey hs] at e
              exact e
          · rintro σ S' ⟨y1, y2, rfl, rfl, hj⟩
            refine ⟨trivial, ?_⟩
            walk_at "nx"
            rw [sameL_all hz fun i x y e1 e2 => hj i x y (by
              have := (List.getElem?_eq_some_iff.mp e1).1
              rw [zipW_len]
              omega) e1 e2] at e
            exact e
        · rw [decide_eq_false h]
          walk_at "nx"
          rw [sameL_len fun z => h (by rw [z])] at e
          exact e
      | _ => first | exact Bool.noConfusion (show false = true from ha) | (walk_at "nx"; unfold sameW at e; exact e)
    | _ => exact Bool.noConfusion (show false = true from hb)
/-! ### _law_odd -/
def odds : List Dt := [.non, .bl true, .bl false, .str "", .str "H", .str "0", .tup [], .lst [], .dK [] [], .tup [.int 0], .lst [.int 0, .int 0], .tup [.tup []], .int (-1), .int 999, .int (10 ^ Int.toNat 20 - 1), .tup [.int 0, .int 1], .tup [.bl true], .tup [.int (-1)]]
theorem odds_pl : ∀ x ∈ odds, pl x = true := by
  intro x hx
  have : odds.all pl = true := by rfl
  exact List.all_eq_true.mp this x hx
def G__law_odd : Fw := fun ws S Q _ => ∃ (h : Addr) (S0 : Store) (hd : List Dt), ws = [.ref h] ∧ S = sup S0 h (.lst hd) ∧ HandL hd ∧ ∀ x hd', x ∈ odds → HandL hd' → Q x (sup S0 h (.lst hd'))
theorem ok__law_odd (T : Txt P w K mg base c_BadFloor c_NoCell c_Floor) (D : Dfn2 K mg "_law_odd" "_law_odd" s__law_odd ["_law_hand_here"]) (C__law_take : Cal P w K mg base "_law_take" 1 ["_law_hand_here", "_law_many"] 2 G__law_take) : Cal P w K mg base "_law_odd" 2 ["_law_hand_here"] 1 G__law_odd := by
  refine cal_of D sc__law_odd G__law_odd rfl fun f cdv A outer s H E hr => ?_
  have hu := hr.units
  refine ⟨_, (jss_cons (js_set (je_cal C__law_take (hr.mono (by omega)) takes_def (by rfl) (ja_cons (je_var (pv 0)) (ja_cons je_int ja_nil))) (pg_name (i := 1) sc__law_odd.nd rfl (by first | exact Or.inl rfl | exact Or.inr rfl))) (jss_cons (js_if (jt_cmp o_lt (je_var (pv 1)) je_int (nomark _)) (jss_one (js_ret (je_ix o_ix (je_frz (jl_lst (ja_cons je_non (ja_cons je_bl (ja_cons je_bl (ja_cons je_str (ja_cons je_str (ja_cons je_str ja_nil)))))))) (je_var (pv 1)) (fun _ _ => rfl)))) jss_nil) (jss_cons (js_if (jt_cmp o_lt (je_var (pv 1)) je_int (nomark _)) (jss_one (js_ret (je_ix o_ix (je_frz (jl_lst (ja_cons (je_tup ja_nil) (ja_cons (je_frz (jl_lst ja_nil)) (ja_cons je_dict0 (ja_cons (je_tup (ja_cons je_int ja_nil)) (ja_cons (je_frz (jl_lst (ja_cons je_int (ja_cons je_int ja_nil)))) (ja_cons (je_tup (ja_cons (je_tup ja_nil) ja_nil)) ja_nil)))))))) (je_op o_sub (je_var (pv 1)) je_int) (fun _ _ => rfl)))) jss_nil) (jss_one (js_ret (je_ix o_ix (je_frz (jl_lst (ja_cons (je_un o_neg je_int) (ja_cons je_int (ja_cons (je_op o_sub (je_op o_pow je_int je_int) je_int) (ja_cons (je_tup (ja_cons je_int (ja_cons je_int ja_nil))) (ja_cons (je_tup (ja_cons je_bl ja_nil)) (ja_cons (je_tup (ja_cons (je_un o_neg je_int) ja_nil)) ja_nil)))))))) (je_op o_sub (je_var (pv 1)) je_int) (fun _ _ => rfl))))))), fun ws S Q Ex hl g => ?_⟩
  obtain ⟨h, S0, hd, rfl, rfl, hh, g⟩ := g
  walk_at "nx"
  refine ⟨rfl, h, 18, S0, hd, rfl, rfl, hh, by decide, log_small (by decide), fun r hd' r0 r1 hh' => ?_⟩
  walk_at "nx"
  by_cases h6 : r < 6
  · rw [decide_eq_true h6]
    walk_at "nx"
    refine ⟨by show 6 ≤ 16777216; decide, ?_⟩
    walk_at "nx"
    obtain ⟨w, e2, hm⟩ := atI_some r0 (xs := [Dt.non, Dt.bl true, Dt.bl false, Dt.str "", Dt.str "H", Dt.str "0"]) (by show r < 6; exact h6)
    rw [show atI _ r = _ from e2]
    refine clo.of (g w hd' ?_ hh')
    simp only [List.mem_cons, List.not_mem_nil, or_false] at hm
    rcases hm with rfl | rfl | rfl | rfl | rfl | rfl <;> simp [odds]
  · rw [decide_eq_false h6]
    walk_at "nx"
    by_cases h12 : r < 12
    · rw [decide_eq_true h12]
      walk_at "ny"
      obtain ⟨w, e2, hm⟩ := atI_some (i := r - 6) (by omega) (xs := [Dt.tup [], Dt.lst [], Dt.dK [] [], .tup [.int 0], .lst [.int 0, .int 0], .tup [.tup []]]) (by show r - 6 < 6; omega)
      rw [show atI _ (r - 6) = _ from e2]
      refine clo.of (g w hd' ?_ hh')
      simp only [List.mem_cons, List.not_mem_nil, or_false] at hm
      rcases hm with rfl | rfl | rfl | rfl | rfl | rfl <;> simp [odds]
    · rw [decide_eq_false h12]
      walk_at "ny"
      obtain ⟨w, e2, hm⟩ := atI_some (i := r - 12) (by omega) (xs := [.int (-1), .int 999, .int (10 ^ Int.toNat 20 - 1), .tup [.int 0, .int 1], .tup [.bl true], .tup [.int (-1)]]) (by show r - 12 < 6; omega)
      rw [show atI _ (r - 12) = _ from e2]
      refine clo.of (g w hd' ?_ hh')
      simp only [List.mem_cons, List.not_mem_nil, or_false] at hm
      rcases hm with rfl | rfl | rfl | rfl | rfl | rfl <;> simp [odds]
/-! ### _law_spoilt -/
theorem odds_ok : ∀ x ∈ odds, OkT x ∧ ∀ z, x = .str z → z.length ≤ 100000 := by
  intro x hx
  refine ⟨⟨odds_pl x hx, fun xs e => ?_⟩, fun z e => ?_⟩
  · subst e
    simp only [odds, List.mem_cons, List.not_mem_nil, or_false, Dt.tup.injEq, reduceCtorEq, false_or] at hx
    rcases hx with rfl | rfl | rfl | rfl | rfl | rfl <;> (intro y hy; simp only [List.mem_cons, List.not_mem_nil, or_false] at hy) <;> (try rcases hy with rfl | rfl) <;> (try subst hy) <;> first | exact absurd hy (by simp) | exact ⟨rfl, fun z e => by cases e⟩
  · subst e
    simp only [odds, List.mem_cons, List.not_mem_nil, or_false, Dt.str.injEq, reduceCtorEq, false_or] at hx
    rcases hx with rfl | rfl | rfl <;> decide
theorem cutS_le (z : Str) (lo hi : Option Int) : (cutS z lo hi).length ≤ z.length := by
  have e := cutS_row z.cps.toList lo hi
  have e2 : (⟨z.cps.toList.toArray⟩ : Str) = z := rfl
  rw [e2] at e
  rw [e, rowS_len]
  exact Nat.le_trans (cutW_le _ _ _) (Nat.le_of_eq Array.length_toList)
theorem len_app (x y : Str) : (x ++ y).length = x.length + y.length := Array.size_append
theorem repl_le (x y z : Str) (hz : z.length = 1) (hx : x.length ≤ 12) : (Txt.replace x y z).length ≤ 1000 := by
  have := TK.replace_len x y z
  rw [hz] at this
  omega
theorem OkT.str {z : Str} : OkT (.str z) := ⟨rfl, fun xs e => by cases e⟩
def G__law_spoilt : Fw := fun ws S Q _ => ∃ (h : Addr) (R : Rws) (S0 : Store) (hd : List Dt), ws = [.ref h, .tup (R.map rowS)] ∧ S = sup S0 h (.lst hd) ∧ HandL hd ∧ GoodF R ∧ ∀ x hd', OkT x → HandL hd' → Q x (sup S0 h (.lst hd'))
theorem ok__law_spoilt (T : Txt P w K mg base c_BadFloor c_NoCell c_Floor) (D : Dfn2 K mg "_law_spoilt" "_law_spoilt" s__law_spoilt ["_law_hand_here", "_law_rows_here"]) (C__law_pick : Cal P w K mg base "_law_pick" 2 ["_law_hand_here", "_law_things"] 2 G__law_pick) (C__law_take : Cal P w K mg base "_law_take" 1 ["_law_hand_here", "_law_many"] 2 G__law_take) (C__law_odd : Cal P w K mg base "_law_odd" 2 ["_law_hand_here"] 1 G__law_odd) : Cal P w K mg base "_law_spoilt" 3 ["_law_hand_here", "_law_rows_here"] 2 G__law_spoilt := by
  refine cal_ofT D sc__law_spoilt G__law_spoilt rfl (by decide +kernel) (by decide) fun f cdv A outer s H E hr => ?_
  have hu := hr.units
  refine ⟨_, (jsst_cons (jst_of (js_set (je_cal C__law_take (hr.mono (by omega)) takes_def (by rfl) (ja_cons (je_var (pv 0)) (ja_cons je_int ja_nil))) (pg_name (i := 2) sc__law_spoilt.nd rfl (by first | exact Or.inl rfl | exact Or.inr rfl)))) (jsst_cons (jst_of (js_set (je_cal C__law_take (hr.mono (by omega)) takes_def (by rfl) (ja_cons (je_var (pv 0)) (ja_cons (je_callB (c_len) (by rfl) T.n_len (by decide +kernel) (ja_cons (je_var (pv 1)) ja_nil)) ja_nil))) (pg_name (i := 3) sc__law_spoilt.nd rfl (by first | exact Or.inl rfl | exact Or.inr rfl)))) (jsst_cons (jst_of (js_set (je_ix o_ix (je_var (pv 1)) (je_var (pv 3)) (fun _ _ => rfl)) (pg_name (i := 4) sc__law_spoilt.nd rfl (by first | exact Or.inl rfl | exact Or.inr rfl)))) (jsst_cons (jst_of (js_set (je_cal C__law_take (hr.mono (by omega)) takes_def (by rfl) (ja_cons (je_var (pv 0)) (ja_cons (je_callB (c_len) (by rfl) T.n_len (by decide +kernel) (ja_cons (je_var (pv 4)) ja_nil)) ja_nil))) (pg_name (i := 5) sc__law_spoilt.nd rfl (by first | exact Or.inl rfl | exact Or.inr rfl)))) (jsst_cons (jst_of (js_if (jt_cmp (o_eq hu) (je_var (pv 2)) je_int (nomark _)) (jss_one (js_ret (je_cal C__law_pick (hr.mono (by omega)) takes_def (by rfl) (ja_cons (je_var (pv 0)) (ja_cons (je_frz (jl_lst (ja_cons (je_cal C__law_odd (hr.mono (by omega)) takes_def (by rfl) (ja_cons (je_var (pv 0)) ja_nil)) (ja_cons (je_frz (jl_callT c_list (by rfl) T.n_list (by decide +kernel) (ja_cons (je_var (pv 1)) ja_nil))) (ja_cons (je_tup ja_nil) (ja_cons (je_slice o_slice (je_op o_mul (je_var (pv 1)) je_int) jo_none (jo_some (je_op o_add je_int (je_cal C__law_take (hr.mono (by omega)) takes_def (by rfl) (ja_cons (je_var (pv 0)) (ja_cons je_int ja_nil)))))) (ja_cons je_str (ja_cons je_non ja_nil)))))))) ja_nil))))) jss_nil)) (jsst_cons (jst_of (js_if (jt_cmp (o_eq hu) (je_var (pv 2)) je_int (nomark _)) (jss_one (js_ret (je_op o_add (je_op o_add (je_slice o_slice (je_var (pv 1)) jo_none (jo_some (je_var (pv 3)))) (je_tup (ja_cons (je_cal C__law_pick (hr.mono (by omega)) takes_def (by rfl) (ja_cons (je_var (pv 0)) (ja_cons (je_frz (jl_lst (ja_cons (je_cal C__law_odd (hr.mono (by omega)) takes_def (by rfl) (ja_cons (je_var (pv 0)) ja_nil)) (ja_cons je_str (ja_cons (je_op o_add (je_var (pv 4)) je_str) (ja_cons (je_slice o_slice (je_var (pv 4)) (jo_some je_int) jo_none) (ja_cons (je_slice o_slice (je_op o_mul (je_var (pv 4)) je_int) jo_none (jo_some (je_op o_add je_int (je_cal C__law_take (hr.mono (by omega)) takes_def (by rfl) (ja_cons (je_var (pv 0)) (ja_cons je_int ja_nil)))))) ja_nil))))))) ja_nil))) ja_nil))) (je_slice o_slice (je_var (pv 1)) (jo_some (je_op o_add (je_var (pv 3)) je_int)) jo_none)))) jss_nil)) (jsst_cons (jst_of (js_if (jt_cmp o_lt (je_var (pv 2)) je_int (nomark _)) (jss_cons (js_set (je_cal C__law_pick (hr.mono (by omega)) takes_def (by rfl) (ja_cons (je_var (pv 0)) (ja_cons (je_frz (jl_lst (ja_cons je_str (ja_cons je_str (ja_cons je_str (ja_cons je_str (ja_cons je_str (ja_cons je_str (ja_cons je_str (ja_cons je_str (ja_cons je_str (ja_cons je_str (ja_cons je_str ja_nil))))))))))))) ja_nil))) (pg_name (i := 6) sc__law_spoilt.nd rfl (by first | exact Or.inl rfl | exact Or.inr rfl))) (jss_one (js_ret (je_op o_add (je_op o_add (je_slice o_slice (je_var (pv 1)) jo_none (jo_some (je_var (pv 3)))) (je_tup (ja_cons (je_op o_add (je_op o_add (je_slice o_slice (je_var (pv 4)) jo_none (jo_some (je_var (pv 5)))) (je_var (pv 6))) (je_slice o_slice (je_var (pv 4)) (jo_some (je_op o_add (je_var (pv 5)) je_int)) jo_none)) ja_nil))) (je_slice o_slice (je_var (pv 1)) (jo_some (je_op o_add (je_var (pv 3)) je_int)) jo_none))))) jss_nil)) (jsst_cons (jst_if (jt_cmp (o_eq hu) (je_var (pv 2)) je_int (nomark _)) (jsst_one (jst_ret (jet_callT1 c_tuple (by rfl) T.n_tuple (by decide +kernel) (jet_frz (jlt_compX (own := [("_law_some", 7)]) rfl rfl takes_def rfl sc__law_spoilt.nd (ji_seq (je_var (pv 1))) (blkOk_by (N := N__law_spoilt) (sc := defScope s__law_spoilt) (by decide +kernel)) binds_name (fun _ _ _ _ _ _ => (pg_name (i := 7) sc__law_spoilt.nd rfl (by first | exact Or.inl rfl | exact Or.inr rfl))) (fun _ _ _ _ _ _ => jts_nil) (fun _ _ _ _ _ _ _ tkx => (jet_repl (je_var (pv 7))))))))) (jsst_of jss_nil)) (jsst_cons (jst_if (jt_cmp (o_eq hu) (je_var (pv 2)) je_int (nomark _)) (jsst_one (jst_ret (jet_callT1 c_tuple (by rfl) T.n_tuple (by decide +kernel) (jet_frz (jlt_compX (own := [("_law_some", 7)]) rfl rfl takes_def rfl sc__law_spoilt.nd (ji_seq (je_var (pv 1))) (blkOk_by (N := N__law_spoilt) (sc := defScope s__law_spoilt) (by decide +kernel)) binds_name (fun _ _ _ _ _ _ => (pg_name (i := 7) sc__law_spoilt.nd rfl (by first | exact Or.inl rfl | exact Or.inr rfl))) (fun _ _ _ _ _ _ => jts_nil) (fun _ _ _ _ _ _ _ tkx => (jet_repl (je_var (pv 7))))))))) (jsst_of jss_nil)) (jsst_cons (jst_of (js_if (jt_cmp (o_eq hu) (je_var (pv 2)) je_int (nomark _)) (jss_one (js_ret (je_op o_add (je_op o_add (je_slice o_slice (je_var (pv 1)) jo_none (jo_some (je_var (pv 3)))) (je_tup (ja_cons (je_var (pv 4)) (ja_cons (je_op o_add (je_var (pv 4)) je_str) ja_nil)))) (je_slice o_slice (je_var (pv 1)) (jo_some (je_var (pv 3))) jo_none)))) jss_nil)) (jsst_one (jst_of (js_ret (je_var (pv 1))))))))))))))), fun ws S Q Ex hl g => ?_⟩
  obtain ⟨h, R, S0, hd, rfl, rfl, hh, hR, g⟩ := g
  have g : ∀ x hd', OkT x → HandL hd' → clo Q x (sup S0 h (.lst hd')) := fun x hd' a b => clo.of (g x hd' a b)
  have hk := okl_rows hR
  have h1 := hR.h1
  have h2 := hR.h2
  walk_at "go"
  refine ⟨h, 9, S0, hd, rfl, rfl, hh, by decide, log_small (by decide), fun t hd t0 t9 hh => ?_⟩
  walk_at "go"
  rw [List.length_map]
  refine ⟨h, _, S0, hd, rfl, rfl, hh, by omega, log_small (by omega), fun a hd a0 a1 hh => ?_⟩
  walk_at "go"
  obtain ⟨b, rfl⟩ : ∃ b : Nat, a = (b : Int) := ⟨a.toNat, by omega⟩
  have hb : b < R.length := by omega
  rw [atI_map [] hb]
  have hr := getD_mem (d := []) hb
  have hw := hR.wl _ hr
  have hw1 := hR.w1
  have hw2 := hR.w2
  have hkr := hk _ (List.mem_map.mpr ⟨_, hr, rfl⟩)
  have er : rowS (R.getD b []) = .str ⟨(R.getD b []).toArray⟩ := rfl
  have el := rowS_len (R.getD b [])
  rw [hw] at el
  generalize (⟨(R.getD b []).toArray⟩ : Str) = z at er el
  rw [er] at hkr ⊢
  walk_at "go"
  refine ⟨by show z.length ≤ 16777216; omega, ?_⟩
  walk_at "go"
  refine ⟨h, _, S0, hd, rfl, rfl, hh, by omega, log_small (by omega), fun p hd p0 p1 hh => ?_⟩
  walk_at "go"
  by_cases e0 : t = 0
  · rw [decide_eq_true e0]
    walk_at "go"
    refine ⟨h, S0, hd, rfl, rfl, hh, fun x hd hx hh => ?_⟩
    walk_at "go"
    refine ⟨by intro e; rw [List.map_eq_nil_iff] at e; rw [e] at h1; exact absurd h1 (by decide), by decide, by decide, by rw [List.length_map]; omega, ?_⟩
    walk_at "go"
    refine ⟨h, 2, S0, hd, rfl, rfl, hh, by decide, log_small (by decide), fun p hd p0 p1 hh => ?_⟩
    walk_at "go"
    refine ⟨h, _, S0, hd, rfl, rfl, hh, by simp, by simp, fun y hd hy hh => ?_⟩
    refine g y hd ?_ hh
    simp only [List.mem_cons, List.not_mem_nil, or_false] at hy
    rcases hy with rfl | rfl | rfl | rfl | rfl | rfl
    · exact (odds_ok _ hx).1
    · exact ⟨by unfold pl; exact plL_of fun w hw => (hk w hw).1, fun xs e => by cases e⟩
    · exact ⟨rfl, fun xs e => by injection e with e; subst e; exact fun y hy => nomatch hy⟩
    · exact ((hk.flat _).cut _ _).tup
    · exact .str
    · exact ⟨rfl, fun xs e => by cases e⟩
  rw [decide_eq_false e0]
  walk_at "go"
  by_cases e1 : t = 1
  · rw [decide_eq_true e1]
    walk_at "go"
    refine ⟨h, S0, hd, rfl, rfl, hh, fun x hd hx hh => ?_⟩
    walk_at "go"
    refine ⟨by rw [el]; show wideF R + 1 ≤ 16777216; omega, ?_⟩
    walk_at "go"
    refine ⟨by show z.length ≤ 16777216; omega, ?_⟩
    walk_at "go"
    refine ⟨h, 2, S0, hd, rfl, rfl, hh, by decide, log_small (by decide), fun p hd p0 p1 hh => ?_⟩
    walk_at "go"
    refine ⟨by rw [repS_len]; show 13 * z.length ≤ 16777216; omega, ?_⟩
    walk_at "go"
    refine ⟨h, _, S0, hd, rfl, rfl, hh, by simp, by simp, fun y hd hy hh => ?_⟩
    have hy : pl y = true ∧ ∀ z, y = .str z → z.length ≤ 100000 := by
      simp only [List.mem_cons, List.not_mem_nil, or_false] at hy
      rcases hy with rfl | rfl | rfl | rfl | rfl
      · exact ⟨(odds_ok _ hx).1.1, (odds_ok _ hx).2⟩
      · exact ⟨rfl, fun z e => by injection e with e; subst e; decide⟩
      · refine ⟨rfl, fun z' e => ?_⟩
        injection e with e
        rw [← e, len_app, el]
        show wideF R + 1 ≤ 100000
        omega
      · refine ⟨rfl, fun z' e => ?_⟩
        injection e with e
        rw [← e]
        exact Nat.le_trans (cutS_le _ _ _) (by omega)
      · refine ⟨rfl, fun z' e => ?_⟩
        injection e with e
        rw [← e]
        refine Nat.le_trans (cutS_le _ _ _) ?_
        rw [repS_len]
        show 13 * z.length ≤ 100000
        omega
    walk_at "go"
    have l1 := cutW_le (R.map rowS) none (some (b : Int))
    have l2 := cutW_le (R.map rowS) (some ((b : Int) + 1)) none
    rw [List.length_map] at l1 l2
    refine ⟨by show _ + 1 ≤ 16777216; omega, ?_⟩
    walk_at "go"
    refine ⟨by rw [List.length_append]; show _ + 1 + _ ≤ 16777216; omega, ?_⟩
    walk_at "go"
    exact g _ _ (((hk.cut _ _).app (.one hy.1 hy.2)).app (hk.cut _ _)).tup hh
  rw [decide_eq_false e1]
  walk_at "go"
  by_cases e5 : t < 5
  · rw [decide_eq_true e5]
    walk_at "go"
    refine ⟨h, _, S0, hd, rfl, rfl, hh, by simp, by simp, fun x hd hx hh => ?_⟩
    have hx : ∃ y : Str, x = .str y ∧ y.length ≤ 2 := by
      simp only [List.mem_cons, List.not_mem_nil, or_false] at hx
      rcases hx with rfl | rfl | rfl | rfl | rfl | rfl | rfl | rfl | rfl | rfl | rfl <;> exact ⟨_, rfl, by decide⟩
    obtain ⟨y, rfl, hy⟩ := hx
    walk_at "go"
    have c1 := cutS_le z none (some p)
    have c2 := cutS_le z (some (p + 1)) none
    refine ⟨by show z.length ≤ 16777216; omega, ?_⟩
    walk_at "go"
    refine ⟨by show _ ≤ 16777216; omega, ?_⟩
    walk_at "go"
    refine ⟨by show z.length ≤ 16777216; omega, ?_⟩
    walk_at "go"
    refine ⟨by rw [len_app]; show _ ≤ 16777216; omega, ?_⟩
    walk_at "go"
    have l1 := cutW_le (R.map rowS) none (some (b : Int))
    have l2 := cutW_le (R.map rowS) (some ((b : Int) + 1)) none
    rw [List.length_map] at l1 l2
    refine ⟨by show _ + 1 ≤ 16777216; omega, ?_⟩
    walk_at "go"
    refine ⟨by rw [List.length_append]; show _ + 1 + _ ≤ 16777216; omega, ?_⟩
    walk_at "go"
    refine g _ _ (((hk.cut _ _).app (.one rfl fun z' e => ?_)).app (hk.cut _ _)).tup hh
    injection e with e
    rw [← e, len_app, len_app]
    omega
  rw [decide_eq_false e5]
  walk_at "go"
  by_cases e5 : t = 5
  · rw [decide_eq_true e5]
    walk_at "go"
    refine compX_all rowS (fun r => .str (Txt.replace ⟨r.toArray⟩ "H" ".")) R trivial (fun r hr => ?_) (by show _ ≤ 16777216; omega) ?_
    · refine ⟨_, rfl, fun k q => ?_⟩
      walk_at "go"
      refine ⟨?_, q⟩
      rw [rowS_len, hR.wl r hr]
      show wideF R + (wideF R + 1) * 1 ≤ 16777216
      omega
    · walk_at "go"
      refine g _ _ (OkL.tup fun y hy => ?_) hh
      obtain ⟨r, hr, rfl⟩ := List.mem_map.mp hy
      refine ⟨rfl, fun z' e => ?_⟩
      injection e with e
      rw [← e]
      exact Nat.le_trans (repl_le _ _ _ rfl (by rw [rowS_len, hR.wl r hr]; omega)) (by decide)
  rw [decide_eq_false e5]
  walk_at "go"
  by_cases e6 : t = 6
  · rw [decide_eq_true e6]
    walk_at "go"
    refine compX_all rowS (fun r => .str (Txt.replace ⟨r.toArray⟩ "." "H")) R trivial (fun r hr => ?_) (by show _ ≤ 16777216; omega) ?_
    · refine ⟨_, rfl, fun k q => ?_⟩
      walk_at "go"
      refine ⟨?_, q⟩
      rw [rowS_len, hR.wl r hr]
      show wideF R + (wideF R + 1) * 1 ≤ 16777216
      omega
    · walk_at "go"
      refine g _ _ (OkL.tup fun y hy => ?_) hh
      obtain ⟨r, hr, rfl⟩ := List.mem_map.mp hy
      refine ⟨rfl, fun z' e => ?_⟩
      injection e with e
      rw [← e]
      exact Nat.le_trans (repl_le _ _ _ rfl (by rw [rowS_len, hR.wl r hr]; omega)) (by decide)
  rw [decide_eq_false e6]
  walk_at "go"
  by_cases e7 : t = 7
  · rw [decide_eq_true e7]
    walk_at "go"
    refine ⟨by rw [el]; show wideF R + 1 ≤ 16777216; omega, ?_⟩
    walk_at "go"
    have l1 := cutW_le (R.map rowS) none (some (b : Int))
    have l2 := cutW_le (R.map rowS) (some (b : Int)) none
    rw [List.length_map] at l1 l2
    refine ⟨by show _ + 2 ≤ 16777216; omega, ?_⟩
    walk_at "go"
    refine ⟨by rw [List.length_append]; show _ + 2 + _ ≤ 16777216; omega, ?_⟩
    walk_at "go"
    refine g _ _ (((hk.cut _ _).app fun y hy => ?_).app (hk.cut _ _)).tup hh
    simp only [List.mem_cons, List.not_mem_nil, or_false] at hy
    rcases hy with rfl | rfl
    · exact hkr
    · refine ⟨rfl, fun z' e => ?_⟩
      injection e with e
      rw [← e, len_app, el]
      show wideF R + 1 ≤ 100000
      omega
  rw [decide_eq_false e7]
  walk_at "go"
  exact g _ _ hk.tup hh
/-! ### _law_bad_rows -/
theorem join_rows (R : Rws) : (Txt.join ("" : Str) (R.map fun r => (⟨r.toArray⟩ : Str))).cps.toList = R.flatten := by
  rw [eq_of_beq (PyProof.Rows.join_closes (sep' := ("" : Str)) rfl)]
  induction R with
  | nil => rfl
  | cons r R ih =>
    cases R with
    | nil =>
      show r.toArray.toList = _
      simp
    | cons r2 R =>
      rw [List.map_cons, List.map_cons, PyProof.Rows.join_cons_cons, List.flatten_cons, ← ih, List.map_cons]
      show ((r.toArray ++ (#[] : Array Nat)) ++ (Str.join ("" : Str) _).cps).toList = _
      simp
theorem rows_sum : ∀ {R : Rws}, (∀ r ∈ R, r.length ≤ 12) → (R.map ((fun x : Str => x.length) ∘ fun r => (⟨r.toArray⟩ : Str))).sum ≤ R.length * 12 ∧ R.flatten.length ≤ R.length * 12
  | [], _ => ⟨Nat.zero_le _, Nat.zero_le _⟩
  | r :: R, h => by
    obtain ⟨e3, e4⟩ := rows_sum (R := R) fun x hx => h x (List.mem_cons_of_mem _ hx)
    have e1 : ((fun x : Str => x.length) ∘ fun r => (⟨r.toArray⟩ : Str)) r = r.length := rowS_len r
    have e2 := h r List.mem_cons_self
    rw [List.map_cons, List.sum_cons, List.length_cons, List.flatten_cons, List.length_append, e1]
    omega
theorem isSgL (c : Nat) : decide (c ∈ (".#HS" : Str).cps.toList) = isSg c := by
  rw [← isSg_mem, show (".#HS" : Str).cps.toList = [46, 35, 72, 83] by decide +kernel, signs_eq]
theorem homes_flat (R : Rws) : homesF R = (R.flatten.filter fun c => decide (c = 72)).length := by
  unfold homesF
  rw [← List.count_flatten, List.count_eq_length_filter]
  congr 1
def badD (w : Dt) : Dt := match badW w with
  | none => .non
  | some b => b
def G__law_bad_rows : Fw := fun ws S Q _ => ∃ w, ws = [w] ∧ OkT w ∧ Q (badD w) S
theorem ok__law_bad_rows (T : Txt P w K mg base c_BadFloor c_NoCell c_Floor) (D : Dfn2 K mg "_law_bad_rows" "_law_bad_rows" s__law_bad_rows ["_law_thing"])  : Cal P w K mg base "_law_bad_rows" 1 ["_law_thing"] 1 G__law_bad_rows := by
  refine cal_of D sc__law_bad_rows G__law_bad_rows rfl fun f cdv A outer s H E hr => ?_
  have hu := hr.units
  refine ⟨_, (jss_cons (js_if (jt_w (jw_or (jt_not (jt_val (je_callB (c_isi) (by rfl) T.n_isinstance (by decide +kernel) (ja_cons (je_var (pv 0)) (ja_cons (je_bty (T := "tuple") (by rfl) T.n_tuple (by decide +kernel)) ja_nil))))) (jw_or (jt_cmp o_lt (je_callB (c_len) (by rfl) T.n_len (by decide +kernel) (ja_cons (je_var (pv 0)) ja_nil)) je_int (nomark _)) (jw_one (jt_cmp o_gt (je_callB (c_len) (by rfl) T.n_len (by decide +kernel) (ja_cons (je_var (pv 0)) ja_nil)) je_int (nomark _)))))) (jss_one (js_ret (je_un o_neg je_int))) jss_nil) (jss_cons (js_for passes_def rfl (ji_rng1 (by rfl) T.n_range (ja_cons (je_callB (c_len) (by rfl) T.n_len (by decide +kernel) (ja_cons (je_var (pv 0)) ja_nil)) ja_nil)) (jg_name (pg_name (i := 1) sc__law_bad_rows.nd rfl (by first | exact Or.inl rfl | exact Or.inr rfl))) (jss_cons (js_if (jt_w (jw_or (jt_not (jt_val (je_callB (c_isi) (by rfl) T.n_isinstance (by decide +kernel) (ja_cons (je_ix o_ix (je_var (pv 0)) (je_var (pv 1)) (fun _ _ => rfl)) (ja_cons (je_bty (T := "str") (by rfl) T.n_str (by decide +kernel)) ja_nil))))) (jw_or (jt_cmp o_lt (je_callB (c_len) (by rfl) T.n_len (by decide +kernel) (ja_cons (je_ix o_ix (je_var (pv 0)) (je_var (pv 1)) (fun _ _ => rfl)) ja_nil)) je_int (nomark _)) (jw_or (jt_cmp o_gt (je_callB (c_len) (by rfl) T.n_len (by decide +kernel) (ja_cons (je_ix o_ix (je_var (pv 0)) (je_var (pv 1)) (fun _ _ => rfl)) ja_nil)) je_int (nomark _)) (jw_one (jt_cmp (o_ne hu) (je_callB (c_len) (by rfl) T.n_len (by decide +kernel) (ja_cons (je_ix o_ix (je_var (pv 0)) (je_var (pv 1)) (fun _ _ => rfl)) ja_nil)) (je_callB (c_len) (by rfl) T.n_len (by decide +kernel) (ja_cons (je_ix o_ix (je_var (pv 0)) je_int (fun _ _ => rfl)) ja_nil)) (nomark _))))))) (jss_one (js_ret (je_var (pv 1)))) jss_nil) (jss_one (js_if (jt_cmp o_gt (je_callB (c_len) (by rfl) T.n_len (by decide +kernel) (ja_cons (je_frz (jl_comp (own := [("_law_sign", 3)]) rfl sc__law_bad_rows.nd (ji_seq (je_ix o_ix (je_var (pv 0)) (je_var (pv 1)) (fun _ _ => rfl))) (blkOk_by (N := N__law_bad_rows) (sc := defScope s__law_bad_rows) (by decide +kernel)) binds_name (fun _ _ _ _ _ => (pg_name (i := 3) sc__law_bad_rows.nd rfl (by first | exact Or.inl rfl | exact Or.inr rfl))) (fun _ _ _ _ _ => (jts_one (jt_cmp (o_notin hu) (je_var (pv 3)) je_str (by rfl)))) (fun _ _ _ _ _ => (je_var (pv 3))))) ja_nil)) je_int (nomark _)) (jss_one (js_ret (je_var (pv 1)))) jss_nil)))) (jss_cons (js_set (je_callB (c_len) (by rfl) T.n_len (by decide +kernel) (ja_cons (je_frz (jl_comp (own := [("_law_sign", 3)]) rfl sc__law_bad_rows.nd (ji_seq (je_meth PySem.F.plainAttrs_str PySem.F.slot_str_join PySem.F.type_str_join m_join je_str (ja_cons (je_var (pv 0)) ja_nil))) (blkOk_by (N := N__law_bad_rows) (sc := defScope s__law_bad_rows) (by decide +kernel)) binds_name (fun _ _ _ _ _ => (pg_name (i := 3) sc__law_bad_rows.nd rfl (by first | exact Or.inl rfl | exact Or.inr rfl))) (fun _ _ _ _ _ => (jts_one (jt_cmp (o_eq hu) (je_var (pv 3)) je_str (nomark _)))) (fun _ _ _ _ _ => (je_var (pv 3))))) ja_nil)) (pg_name (i := 2) sc__law_bad_rows.nd rfl (by first | exact Or.inl rfl | exact Or.inr rfl))) (jss_cons (js_if (jt_w (jw_or (jt_cmp o_lt (je_var (pv 2)) je_int (nomark _)) (jw_one (jt_cmp o_gt (je_var (pv 2)) je_int (nomark _))))) (jss_one (js_ret je_str)) jss_nil) (jss_one (js_ret je_non)))))), fun ws S Q Ex hl g => ?_⟩
  obtain ⟨w, rfl, hw, g⟩ := g
  have g : clo Q (badD w) S := clo.of g
  cases w with
  | tup xs =>
    have hk := hw.2 xs rfl
    have eb : badD (.tup xs) = match (if 1 ≤ xs.length ∧ xs.length ≤ 12 then match badRow xs with
      | some k => some (.int (k : Nat))
      | none => if 1 ≤ homesF (xs.map rowOf) ∧ homesF (xs.map rowOf) ≤ 6 then none else some (.str "homes")
      else some (.int (-1))) with
      | none => .non
      | some b => b := rfl
    rw [eb] at g
    clear eb
    walk_at "go"
    by_cases a1 : (xs.length : Int) < 1
    · rw [decide_eq_true a1]
      walk_at "go"
      rw [if_neg (by omega)] at g
      exact g
    rw [decide_eq_false a1]
    walk_at "go"
    by_cases a2 : (12 : Int) < xs.length
    · rw [decide_eq_true a2]
      walk_at "go"
      rw [if_neg (by omega)] at g
      exact g
    rw [decide_eq_false a2]
    rw [if_pos (by omega)] at g
    walk_at "go"
    rw [Int.toNat_natCast, rangeW_0]
    refine forW_rule (fun i σ S' => ∃ (y1 y2 y3 : Option Dt), σ = [some (.tup xs), y1, y2, y3] ∧ S' = S ∧ ∀ (j : Nat) (v : Dt), j < i → xs[j]? = some v → (!frowW v || !decide (lenW v = lenW (xs.headD .non))) = false) ⟨none, none, none, rfl, rfl, fun j v h => absurd h (Nat.not_lt_zero _)⟩ ?_ ?_
    · rintro i w σ S' N ew ⟨y1, y2, y3, rfl, rfl, hok⟩ hN
      obtain ⟨j, ej, rfl⟩ := map_get ew
      obtain ⟨hi, rfl⟩ : i < xs.length ∧ j = i := by
        obtain ⟨a, b⟩ := List.getElem?_eq_some_iff.mp ej
        rw [List.length_range] at a
        rw [List.getElem_range] at b
        exact ⟨a, b.symm⟩
      have ev : xs[j]? = some xs[j] := List.getElem?_eq_getElem hi
      have ea : atI xs (j : Nat) = some xs[j] := (Dn.atI_get (by omega)).trans (by rw [Int.toNat_natCast]; exact ev)
      have hv := hk _ (List.mem_of_getElem? ev)
      have bad : (!frowW xs[j] || !decide (lenW xs[j] = lenW (xs.headD .non))) = true → clo Q (.int (j : Nat)) S' := fun hb => by
        rw [badRow_some ev hb hok] at g
        exact g
      have good : (!frowW xs[j] || !decide (lenW xs[j] = lenW (xs.headD .non))) = false → ∀ (j2 : Nat) (v : Dt), j2 < j + 1 → xs[j2]? = some v → (!frowW v || !decide (lenW v = lenW (xs.headD .non))) = false := fun hb j2 v h2 e2 => by
        by_cases h3 : j2 = j
        · subst h3
          rw [ev] at e2
          cases e2
          exact hb
        · exact hok j2 v (by omega) e2
      generalize xs[j] = v at ev ea hv bad good
      obtain ⟨C, hC⟩ : ∃ C : Prop, C = (∀ (j2 : Nat) (v : Dt), j2 < j + 1 → xs[j2]? = some v → (!frowW v || !decide (lenW v = lenW (xs.headD .non))) = false) := ⟨_, rfl⟩
      rw [← hC] at good
      refine ⟨trivial, ?_⟩
      walk_at "go"
      rw [ea]
      cases v with
      | str z =>
        have hz := hv.2 z rfl
        have fz : frowW (.str z) = (decide (1 ≤ z.length) && decide (z.length ≤ 12) && z.cps.toList.all isSg) := rfl
        rw [fz] at bad good
        have zle : z.length ≤ sizeLine := by show z.length ≤ 16777216; omega
        walk_at "go"
        rw [ea]
        walk_at "go"
        by_cases b1 : (z.length : Int) < 1
        · rw [decide_eq_true b1]
          walk_at "go"
          refine bad ?_
          rw [decide_eq_false (show ¬ 1 ≤ z.length by omega)]
          rfl
        rw [decide_eq_false b1]
        rw [decide_eq_true (show 1 ≤ z.length by omega)] at bad good
        walk_at "go"
        rw [ea]
        walk_at "go"
        by_cases b2 : (12 : Int) < z.length
        · rw [decide_eq_true b2]
          walk_at "go"
          refine bad ?_
          rw [decide_eq_false (show ¬ z.length ≤ 12 by omega)]
          rfl
        rw [decide_eq_false b2]
        rw [decide_eq_true (show z.length ≤ 12 by omega)] at bad good
        walk_at "go"
        rw [ea]
        walk_at "go"
        obtain ⟨h0, h0'⟩ := head_at (xs := xs) (by omega)
        have hf0 : ∃ z0 : Str, xs.headD .non = .str z0 ∧ z0.length ≤ 12 := by
          by_cases hj0 : j = 0
          · subst hj0
            rw [h0] at ev
            injection ev with ev
            exact ⟨z, ev, by omega⟩
          · have := hok 0 _ (by omega) h0
            rw [Bool.or_eq_false_iff, Bool.not_eq_false'] at this
            obtain ⟨z0, e0, _, z02, _⟩ := frowW_of this.1
            exact ⟨z0, e0, z02⟩
        obtain ⟨z0, ez0, hz0⟩ := hf0
        rw [ez0] at h0' bad good
        rw [h0']
        walk_at "go"
        refine ⟨by show z0.length ≤ 16777216; omega, ?_⟩
        rw [show decide (lenW (.str z) = lenW (.str z0)) = decide ((z.length : Int) = (z0.length : Int)) by rw [Bool.eq_iff_iff, decide_eq_true_iff, decide_eq_true_iff]; show z.length = z0.length ↔ _; omega] at bad good
        walk_at "go"
        cases hd : decide ((z.length : Int) = (z0.length : Int)) with
        | false =>
          rw [hd] at bad
          walk_at "go"
          refine bad ?_
          rw [Bool.not_false, Bool.or_true]
        | true =>
          rw [hd] at bad good
          walk_at "go"
          rw [ea]
          walk_at "go"
          refine comp_xs (fun c : Nat => .str ⟨#[c]⟩) (fun c => !isSg c) (fun c => .str ⟨#[c]⟩) trivial z.cps.toList [] (fun c hc => ?_) (by rw [List.length_nil, show z.cps.toList.length = z.length from Array.length_toList]; show _ ≤ 16777216; omega) ?_
          · refine ⟨_, rfl, fun k q => ?_, fun _ k q => ?_⟩
            · walk_at "go"
              refine ⟨c, rfl, ?_⟩
              rw [← isSgL c] at q
              exact q
            · walk_at "go"
              exact q
          · walk_at "go"
            rw [List.nil_append, List.length_map]
            cases ha : z.cps.toList.all isSg with
            | true =>
              rw [ha] at good
              have hf : z.cps.toList.filter (fun c => !isSg c) = [] := by
                rw [List.filter_eq_nil_iff]
                intro c hc
                rw [List.all_eq_true.mp ha c hc]
                exact Bool.false_ne_true
              rw [hf]
              walk_at "go"
              exact hN _ _ ⟨_, _, _, rfl, rfl, by rw [← hC]; exact good rfl⟩
            | false =>
              rw [ha] at bad
              have hf : 0 < (z.cps.toList.filter (fun c => !isSg c)).length := by
                rw [List.length_pos_iff, ne_eq, List.filter_eq_nil_iff]
                intro hall
                have : z.cps.toList.all isSg = true := List.all_eq_true.mpr fun c hc => by
                  have := hall c hc
                  rwa [Bool.not_eq_true, Bool.not_eq_false'] at this
                rw [ha] at this
                cases this
              rw [decide_eq_true (show (0 : Int) < ((z.cps.toList.filter (fun c => !isSg c)).length : Nat) by omega)]
              walk_at "go"
              exact bad rfl
      | non => walk_at "go"; exact bad rfl
      | bl b => walk_at "go"; exact bad rfl
      | int b => walk_at "go"; exact bad rfl
      | tup b => walk_at "go"; exact bad rfl
      | lst b => walk_at "go"; exact bad rfl
      | dK b c => walk_at "go"; exact bad rfl
      | dT b c => walk_at "go"; exact bad rfl
      | ty _ => cases hv.1
      | kl _ => cases hv.1
      | ins _ _ _ => cases hv.1
      | exn _ _ _ _ => cases hv.1
      | ref _ => cases hv.1
      | kt _ => cases hv.1
    · rintro σ S' ⟨y1, y2, y3, rfl, rfl, hok⟩
      refine ⟨trivial, ?_⟩
      rw [List.length_map, List.length_range] at hok
      have hok : ∀ (j : Nat) (v : Dt), xs[j]? = some v → (!frowW v || !decide (lenW v = lenW (xs.headD .non))) = false := fun j v e => hok j v (List.getElem?_eq_some_iff.mp e).1 e
      have fr : ∀ w ∈ xs, frowW w = true := fun w hw => by
        obtain ⟨j, hj, e⟩ := List.mem_iff_getElem.mp hw
        have := hok j w (by rw [List.getElem?_eq_getElem hj, e])
        rw [Bool.or_eq_false_iff, Bool.not_eq_false'] at this
        exact this.1
      have exs := rows_of fr
      rw [badRow_none hok] at g
      have gy : 1 ≤ homesF (xs.map rowOf) ∧ homesF (xs.map rowOf) ≤ 6 → clo Q .non S' := fun h => by simpa only [if_pos h] using g
      have gn : ¬(1 ≤ homesF (xs.map rowOf) ∧ homesF (xs.map rowOf) ≤ 6) → clo Q (.str "homes") S' := fun h => by simpa only [if_neg h] using g
      clear g
      have hl12 : ∀ r ∈ xs.map rowOf, r.length ≤ 12 := fun r hr => by
        obtain ⟨w, hw, rfl⟩ := List.mem_map.mp hr
        obtain ⟨z, _, _, z2, _, _, _, z6⟩ := frowW_of (fr w hw)
        omega
      have hxl : (xs.map rowOf).length ≤ 12 := by rw [List.length_map]; omega
      clear fr hok
      generalize xs.map rowOf = R at exs hl12 hxl gy gn
      subst exs
      walk_at "go"
      have es : R.map rowS = strsW (R.map fun r => (⟨r.toArray⟩ : Str)) := by
        unfold strsW
        rw [List.map_map]
        rfl
      refine ⟨R.map fun r => (⟨r.toArray⟩ : Str), es, ?_, ?_⟩
      · rw [List.map_map, List.length_map]
        have hs := (rows_sum hl12).1
        show _ + R.length * 0 ≤ 16777216
        omega
      walk_at "go"
      rw [show signsW (Txt.join (Str.ofString "") (R.map fun r => (⟨r.toArray⟩ : Str))) = R.flatten.map fun c => .str ⟨#[c]⟩ by unfold signsW; rw [join_rows]]
      refine comp_xs (fun c : Nat => .str ⟨#[c]⟩) (fun c => decide (c = 72)) (fun c => .str ⟨#[c]⟩) trivial R.flatten [] (fun c hc => ?_) ?_ ?_
      · refine ⟨_, rfl, fun k q => ?_, fun _ k q => ?_⟩
        · walk_at "go"
          rw [show decide (c = 72) = decide ((⟨#[c]⟩ : Str) = ("H" : Str)) by rw [Bool.eq_iff_iff, decide_eq_true_iff, decide_eq_true_iff, strH, str_one]] at q
          exact q
        · walk_at "go"
          exact q
      · have hfl := (rows_sum hl12).2
        rw [List.length_nil]
        show _ ≤ 16777216
        omega
      · walk_at "go"
        rw [List.nil_append, List.length_map, ← homes_flat]
        by_cases o1 : ((homesF R : Nat) : Int) < 1
        · rw [decide_eq_true o1]
          walk_at "go"
          exact gn (by omega)
        rw [decide_eq_false o1]
        walk_at "go"
        by_cases o2 : (6 : Int) < ((homesF R : Nat) : Int)
        · rw [decide_eq_true o2]
          walk_at "go"
          exact gn (by omega)
        rw [decide_eq_false o2]
        walk_at "go"
        exact gy (by omega)
  | non => walk_at "go"; exact g
  | bl b => walk_at "go"; exact g
  | int b => walk_at "go"; exact g
  | str b => walk_at "go"; exact g
  | lst b => walk_at "go"; exact g
  | dK b c => walk_at "go"; exact g
  | dT b c => walk_at "go"; exact g
  | ty _ => cases hw.1
  | kl _ => cases hw.1
  | ins _ _ _ => cases hw.1
  | exn _ _ _ _ => cases hw.1
  | ref _ => cases hw.1
  | kt _ => cases hw.1
/-! ### _law_is_within -/
def G__law_is_within : Fw := fun ws S Q _ => ∃ w lo hi, ws = [w, .int lo, .int hi] ∧ kn S w ∧ Q (.bl (inW w lo hi)) S
theorem ok__law_is_within (T : Txt P w K mg base c_BadFloor c_NoCell c_Floor) (D : Dfn2 K mg "_law_is_within" "_law_is_within" s__law_is_within ["_law_thing", "_law_least", "_law_most"]) (C__law_is_integer : Cal P w K mg base "_law_is_integer" 1 ["_law_thing"] 1 G__law_is_integer) : Cal P w K mg base "_law_is_within" 2 ["_law_thing", "_law_least", "_law_most"] 3 G__law_is_within := by
  refine cal_of D sc__law_is_within G__law_is_within rfl fun f cdv A outer s H E hr => ?_
  have hu := hr.units
  refine ⟨_, (jss_one (js_ret (je_and (je_cal C__law_is_integer (hr.mono (by omega)) takes_def (by rfl) (ja_cons (je_var (pv 0)) ja_nil)) (je_and (je_cmp o_le (je_var (pv 1)) (je_var (pv 0)) (nomark _)) (je_one (je_cmp o_le (je_var (pv 0)) (je_var (pv 2)) (nomark _))))))), fun ws S Q Ex hl g => ?_⟩
  obtain ⟨w, lo, hi, rfl, kt, g⟩ := g
  walk_at "dn"
  refine ⟨w, rfl, kt, ?_⟩
  have e : clo Q (.bl (inW w lo hi)) S := clo.of g
  cases w with
  | int i => by_cases h : lo ≤ i <;> simpa [isI, inW, h] using e
  | _ => exact e
/-! ### stations -/
def G_stations (c_Floor : Addr) : Fw := fun ws S Q _ => ∃ R, ws = [floorD c_Floor R] ∧ Q (.tup (lotW (ofF R 83))) S
theorem ok_stations (T : Txt P w K mg base c_BadFloor c_NoCell c_Floor) (D : Dfn2 K mg "stations" "stations" s_stations ["floor"])  : Cal P w K mg base "stations" 1 ["floor"] 1 (G_stations c_Floor) := by
  refine cal_of D sc_stations (G_stations c_Floor) rfl fun f cdv A outer s H E hr => ?_
  have hu := hr.units
  refine ⟨_, (jss_one (js_ret (je_fld (ns0 := ["rows", "spots", "ties", "rests", "stops"]) (i := 4) T.fd_Floor_stops (fieldAt_of (by decide +kernel)) (je_var (pv 0))))), fun ws S Q Ex hl g => ?_⟩
  obtain ⟨R, rfl, g⟩ := g
  walk_at "go"
  exact clo.of g
/-! ### _law_made -/
def madeW (w : Dt) : Dt := match badW w with
  | none => .tup [.str "told", w]
  | some b => .tup [.str "BadFloor", b]
theorem badW_tup {w : Dt} (h : badW w = none) : ∃ xs, w = .tup xs ∧ 1 ≤ xs.length ∧ xs.length ≤ 12 ∧ badRow xs = none ∧ 1 ≤ homesF (xs.map rowOf) ∧ homesF (xs.map rowOf) ≤ 6 := by
  cases w with
  | tup xs =>
    unfold badW at h
    dsimp only at h
    split at h
    · rename_i h1
      split at h
      · cases h
      · rename_i h2
        split at h
        · rename_i h3
          exact ⟨xs, rfl, h1.1, h1.2, h2, h3⟩
        · cases h
    · cases h
  | _ => cases h
def G__law_made (c_Floor : Addr) : Fw := fun ws S Q _ => ∃ w, ws = [w] ∧ OkT w ∧ Q (madeW w) S
theorem ok__law_made (T : Txt P w K mg base c_BadFloor c_NoCell c_Floor) (D : Dfn2 K mg "_law_made" "_law_made" s__law_made ["_law_rows_here"]) (C_Floor_init : CalI P w K mg base "Floor" c_Floor 3 ["self", "rows"] 2 (G_Floor_init c_Floor c_BadFloor)) : Cal P w K mg base "_law_made" 5 ["_law_rows_here"] 1 (G__law_made c_Floor) := by
  refine cal_of D sc__law_made (G__law_made c_Floor) rfl fun f cdv A outer s H E hr => ?_
  have hu := hr.units
  refine ⟨_, (jss_one (js_try rfl rfl sc__law_made.nd takes_def (fun _ _ _ tk1 pa1 => (jss_one (js_ret (je_tup (ja_cons je_str (ja_cons (je_fld (ns0 := ["rows", "spots", "ties", "rests", "stops"]) (i := 0) T.fd_Floor_rows (fieldAt_of (by decide +kernel)) (je_frzI (je_make C_Floor_init (hr.mono (by omega)) tk1 (by rfl) (ja_cons (je_var (pv 0)) ja_nil)))) ja_nil)))))) (.named (i := 1) ⟨by rfl, by decide, .inl T.x_BadFloor.gC⟩ rfl rfl (fun _ _ _ _ _ zc zf => (jss_one (js_ret (je_tup (ja_cons je_str (ja_cons (je_xf T.x_BadFloor.fC T.x_BadFloor.no zc zf (je_var (pv 1))) ja_nil)))))) .nil))), fun ws S Q Ex hl g => ?_⟩
  obtain ⟨w, rfl, hw, g⟩ := g
  have g : clo Q (madeW w) S := clo.of g
  walk_at "go"
  intro p hp
  refine ⟨p, _, w, rfl, rfl, hp, hw.1, fun xs e x hx z ez => (hw.2 xs e x hx).2 z ez, fun R hR e ns fs ef => ?_, fun b hb => ?_⟩
  · injection ef with e1 e2 e3
    subst e2 e3
    unfold madeW at g
    rw [e, badW_good hR, ← e] at g
    walk_at "go"
    rw [sdel_sup hp]
    subst e
    exact g
  · unfold madeW at g
    rw [hb] at g
    walk_at "go"
    refine ⟨true, T.m_BadFloor_BadFloor, fun _ => ?_, fun z => Bool.noConfusion z⟩
    walk_at "go"
    refine ⟨_, _, rfl, fun ea dd => ?_⟩
    walk_at "go"
    refine ⟨_, rfl, ?_⟩
    walk_at "go"
    exact g
/-! ### Floor_eq -/
def G_Floor_eq (c_Floor : Addr) : Fw := fun ws S Q _ => ∃ (R : Rws) (z : Dt), ws = [floorD c_Floor R, z] ∧ GoodF R ∧ ((∃ R', z = floorD c_Floor R' ∧ GoodF R' ∧ Q (.bl (decide (R = R'))) S) ∨ (∃ xs, z = .tup xs ∧ Q (.bl false) S))
theorem ok_Floor_eq (T : Txt P w K mg base c_BadFloor c_NoCell c_Floor) (D : DfnM K c_Floor "__eq__" "Floor.__eq__" s_Floor_eq ["self", "other"])  : CalM P w K mg base c_Floor "__eq__" 1 ["self", "other"] 2 (G_Floor_eq c_Floor) := by
  refine calM_of D sc_Floor_eq (G_Floor_eq c_Floor) rfl fun f cdv A outer s H E hr => ?_
  have hu := hr.units
  refine ⟨_, (jss_one (js_ret (je_and (je_callB (c_isiO T.is_Floor) (by rfl) T.n_isinstance (by decide +kernel) (ja_cons (je_var (pv 1)) (ja_cons (je_gcls (by rfl) T.gc_Floor) ja_nil))) (je_one (je_cmp (o_eq hu) (je_fld (ns0 := ["rows", "spots", "ties", "rests", "stops"]) (i := 0) T.fd_Floor_rows (fieldAt_of (by decide +kernel)) (je_var (pv 0))) (je_fld (ns0 := ["rows", "spots", "ties", "rests", "stops"]) (i := 0) T.fd_Floor_rows (fieldAt_of (by decide +kernel)) (je_var (pv 1))) (nomark _)))))), fun ws S Q Ex hl g => ?_⟩
  obtain ⟨R, z, rfl, hR, g⟩ := g
  rcases g with ⟨R', rfl, hR', g⟩ | ⟨xs, rfl, g⟩
  · walk_at "go"
    refine ⟨true, List.mem_singleton.mpr rfl, ?_⟩
    walk_at "go"
    refine ⟨rows_fl hR, rows_fl hR', ?_⟩
    rw [eqD_rows]
    exact clo.of g
  · walk_at "go"
    exact clo.of g
/-! ### cells -/
def G_cells (c_Floor : Addr) : Fw := fun ws S Q _ => ∃ R, ws = [floorD c_Floor R] ∧ Q (.tup ((spotsF R).map spD)) S
theorem ok_cells (T : Txt P w K mg base c_BadFloor c_NoCell c_Floor) (D : Dfn2 K mg "cells" "cells" s_cells ["floor"])  : Cal P w K mg base "cells" 1 ["floor"] 1 (G_cells c_Floor) := by
  refine cal_of D sc_cells (G_cells c_Floor) rfl fun f cdv A outer s H E hr => ?_
  have hu := hr.units
  refine ⟨_, (jss_one (js_ret (je_fld (ns0 := ["rows", "spots", "ties", "rests", "stops"]) (i := 1) T.fd_Floor_spots (fieldAt_of (by decide +kernel)) (je_var (pv 0))))), fun ws S Q Ex hl g => ?_⟩
  obtain ⟨R, rfl, g⟩ := g
  walk_at "go"
  exact clo.of g
/-! ### homes -/
def G_homes (c_Floor : Addr) : Fw := fun ws S Q _ => ∃ R, ws = [floorD c_Floor R] ∧ Q (.tup (lotW (ofF R 72))) S
theorem ok_homes (T : Txt P w K mg base c_BadFloor c_NoCell c_Floor) (D : Dfn2 K mg "homes" "homes" s_homes ["floor"])  : Cal P w K mg base "homes" 1 ["floor"] 1 (G_homes c_Floor) := by
  refine cal_of D sc_homes (G_homes c_Floor) rfl fun f cdv A outer s H E hr => ?_
  have hu := hr.units
  refine ⟨_, (jss_one (js_ret (je_fld (ns0 := ["rows", "spots", "ties", "rests", "stops"]) (i := 3) T.fd_Floor_rests (fieldAt_of (by decide +kernel)) (je_var (pv 0))))), fun ws S Q Ex hl g => ?_⟩
  obtain ⟨R, rfl, g⟩ := g
  walk_at "go"
  exact clo.of g
/-! ### is_integer -/
def G_is_integer : Fw := fun ws S Q _ => ∃ w, ws = [w] ∧ kn S w ∧ Q (.bl (isI w)) S
theorem ok_is_integer (T : Txt P w K mg base c_BadFloor c_NoCell c_Floor) (D : Dfn2 K mg "is_integer" "is_integer" s_is_integer ["thing"])  : Cal P w K mg base "is_integer" 1 ["thing"] 1 G_is_integer := by
  refine cal_of D sc_is_integer G_is_integer rfl fun f cdv A outer s H E hr => ?_
  have hu := hr.units
  refine ⟨_, (jss_one (js_ret (je_and (je_callB (c_isi) (by rfl) T.n_isinstance (by decide +kernel) (ja_cons (je_var (pv 0)) (ja_cons (je_bty (T := "int") (by rfl) T.n_int (by decide +kernel)) ja_nil))) (je_one (je_not (je_callB (c_isi) (by rfl) T.n_isinstance (by decide +kernel) (ja_cons (je_var (pv 0)) (ja_cons (je_bty (T := "bool") (by rfl) T.n_bool (by decide +kernel)) ja_nil)))))))), fun ws S Q Ex hl g => ?_⟩
  obtain ⟨w, rfl, ⟨t, kt⟩, g⟩ := g
  walk_at "dn"
  simp only [kt, kI kt, kB kt]
  have e : clo Q (.bl (isI w)) S := clo.of g
  cases w <;> simpa [isI, isB] using e
/-! ### is_within -/
def G_is_within : Fw := fun ws S Q _ => ∃ w lo hi, ws = [w, .int lo, .int hi] ∧ kn S w ∧ Q (.bl (inW w lo hi)) S
theorem ok_is_within (T : Txt P w K mg base c_BadFloor c_NoCell c_Floor) (D : Dfn2 K mg "is_within" "is_within" s_is_within ["thing", "least", "most"]) (C_is_integer : Cal P w K mg base "is_integer" 1 ["thing"] 1 G_is_integer) : Cal P w K mg base "is_within" 2 ["thing", "least", "most"] 3 G_is_within := by
  refine cal_of D sc_is_within G_is_within rfl fun f cdv A outer s H E hr => ?_
  have hu := hr.units
  refine ⟨_, (jss_one (js_ret (je_and (je_cal C_is_integer (hr.mono (by omega)) takes_def (by rfl) (ja_cons (je_var (pv 0)) ja_nil)) (je_one (je_chain o_le o_le (je_var (pv 1)) (je_var (pv 0)) (je_var (pv 2))))))), fun ws S Q Ex hl g => ?_⟩
  obtain ⟨w, lo, hi, rfl, kt, g⟩ := g
  walk_at "dn"
  refine ⟨w, rfl, kt, ?_⟩
  have e : clo Q (.bl (inW w lo hi)) S := clo.of g
  cases w with
  | int i => by_cases h : lo ≤ i <;> simpa [isI, inW, h] using e
  | _ => exact e
/-! ### is_below -/
def G_is_below : Fw := fun ws S Q _ => ∃ w n, ws = [w, .int n] ∧ kn S w ∧ Q (.bl (inW w 0 (n - 1))) S
theorem ok_is_below (T : Txt P w K mg base c_BadFloor c_NoCell c_Floor) (D : Dfn2 K mg "is_below" "is_below" s_is_below ["thing", "many"]) (C_is_within : Cal P w K mg base "is_within" 2 ["thing", "least", "most"] 3 G_is_within) : Cal P w K mg base "is_below" 3 ["thing", "many"] 2 G_is_below := by
  refine cal_of D sc_is_below G_is_below rfl fun f cdv A outer s H E hr => ?_
  have hu := hr.units
  refine ⟨_, (jss_one (js_ret (je_cal C_is_within (hr.mono (by omega)) takes_def (by rfl) (ja_cons (je_var (pv 0)) (ja_cons je_int (ja_cons (je_op o_sub (je_var (pv 1)) je_int) ja_nil)))))), fun ws S Q Ex hl g => ?_⟩
  obtain ⟨w, n, rfl, kt, g⟩ := g
  walk_at "dn"
  exact ⟨w, 0, n - 1, rfl, kt, clo.of g⟩
/-! ### is_cell -/
def G_is_cell (c_Floor : Addr) : Fw := fun ws S Q _ => ∃ R w, ws = [floorD c_Floor R, w] ∧ kn S w ∧ Q (.bl (inW w 0 ((spotsF R).length - 1))) S
theorem ok_is_cell (T : Txt P w K mg base c_BadFloor c_NoCell c_Floor) (D : Dfn2 K mg "is_cell" "is_cell" s_is_cell ["floor", "thing"]) (C_is_below : Cal P w K mg base "is_below" 3 ["thing", "many"] 2 G_is_below) : Cal P w K mg base "is_cell" 4 ["floor", "thing"] 2 (G_is_cell c_Floor) := by
  refine cal_of D sc_is_cell (G_is_cell c_Floor) rfl fun f cdv A outer s H E hr => ?_
  have hu := hr.units
  refine ⟨_, (jss_one (js_ret (je_cal C_is_below (hr.mono (by omega)) takes_def (by rfl) (ja_cons (je_var (pv 1)) (ja_cons (je_callB (c_len) (by rfl) T.n_len (by decide +kernel) (ja_cons (je_fld (ns0 := ["rows", "spots", "ties", "rests", "stops"]) (i := 1) T.fd_Floor_spots (fieldAt_of (by decide +kernel)) (je_var (pv 0))) ja_nil)) ja_nil))))), fun ws S Q Ex hl g => ?_⟩
  obtain ⟨R, w, rfl, kw, g⟩ := g
  have l1 : ((spotsF R).map spD).length = (spotsF R).length := List.length_map ..
  walk_at "go"
  rw [l1]
  exact ⟨w, _, rfl, kw, clo.of g⟩
/-! ### neighbours -/
def G_neighbours (c_Floor c_NoCell : Addr) : Fw := fun ws S Q Ex => ∃ R w, ws = [floorD c_Floor R, w] ∧ kn S w ∧ (∀ c : Nat, w = .int c → c < (spotsF R).length → Q (.tup (lotW (tieF (spotsF R) ((spotsF R).getD c (0, 0))))) S) ∧ (inW w 0 ((spotsF R).length - 1) = false → Ex ⟨.ref c_NoCell, none⟩ S)
theorem ok_neighbours (T : Txt P w K mg base c_BadFloor c_NoCell c_Floor) (D : Dfn2 K mg "neighbours" "neighbours" s_neighbours ["floor", "cell"]) (C_is_cell : Cal P w K mg base "is_cell" 4 ["floor", "thing"] 2 (G_is_cell c_Floor)) : Cal P w K mg base "neighbours" 5 ["floor", "cell"] 2 (G_neighbours c_Floor c_NoCell) := by
  refine cal_of D sc_neighbours (G_neighbours c_Floor c_NoCell) rfl fun f cdv A outer s H E hr => ?_
  have hu := hr.units
  refine ⟨_, (jss_cons (js_if (jt_not (jt_val (je_cal C_is_cell (hr.mono (by omega)) takes_def (by rfl) (ja_cons (je_var (pv 0)) (ja_cons (je_var (pv 1)) ja_nil))))) (jss_one (js_raise rfl takes_def (jr_exc0 T.x_NoCell (by rfl)))) jss_nil) (jss_one (js_ret (je_ix o_ix (je_fld (ns0 := ["rows", "spots", "ties", "rests", "stops"]) (i := 2) T.fd_Floor_ties (fieldAt_of (by decide +kernel)) (je_var (pv 0))) (je_var (pv 1)) (fun _ _ => rfl))))), fun ws S Q Ex hl g => ?_⟩
  obtain ⟨R, w, rfl, kw, g1, g2⟩ := g
  walk_at "go"
  refine ⟨R, w, rfl, kw, ?_⟩
  cases h : inW w 0 ((spotsF R).length - 1) with
  | true =>
    obtain ⟨c, rfl, hc⟩ := inW_nat h
    walk_at "go"
    rw [atI_map [] (by rw [ties_len]; exact hc), tie_at hc]
    exact clo.of (g1 c rfl hc)
  | false => exact clX.of (g2 h)
/-! ### _law_near_told -/
def nearT (R : Rws) (w : Dt) : Dt := if inW w 0 ((spotsF R).length - 1) = true then .tup [.str "told", .tup (lotW (tieF (spotsF R) ((spotsF R).getD (match w with | .int i => i.toNat | _ => 0) (0, 0))))] else .tup [.str "NoCell"]
def G__law_near_told (c_Floor : Addr) : Fw := fun ws S Q _ => ∃ R w, ws = [floorD c_Floor R, w] ∧ kn S w ∧ Q (nearT R w) S
theorem ok__law_near_told (T : Txt P w K mg base c_BadFloor c_NoCell c_Floor) (D : Dfn2 K mg "_law_near_told" "_law_near_told" s__law_near_told ["_law_floor", "_law_cell"]) (C_neighbours : Cal P w K mg base "neighbours" 5 ["floor", "cell"] 2 (G_neighbours c_Floor c_NoCell)) : Cal P w K mg base "_law_near_told" 6 ["_law_floor", "_law_cell"] 2 (G__law_near_told c_Floor) := by
  refine cal_of D sc__law_near_told (G__law_near_told c_Floor) rfl fun f cdv A outer s H E hr => ?_
  have hu := hr.units
  refine ⟨_, (jss_one (js_try rfl rfl sc__law_near_told.nd takes_def (fun _ _ _ tk1 pa1 => (jss_one (js_ret (je_tup (ja_cons je_str (ja_cons (je_cal C_neighbours (hr.mono (by omega)) tk1 (by rfl) (ja_cons (je_var (pv 0)) (ja_cons (je_var (pv 1)) ja_nil))) ja_nil)))))) (.cons ⟨by rfl, by decide, .inl T.x_NoCell.gC⟩ (fun _ _ _ => (jss_one (js_ret (je_tup (ja_cons je_str ja_nil))))) .nil))), fun ws S Q Ex hl g => ?_⟩
  obtain ⟨R, w, rfl, kw, g⟩ := g
  have g : clo Q (nearT R w) S := clo.of g
  walk_at "go"
  refine ⟨R, w, rfl, kw, fun c ec hc => ?_, fun h => ?_⟩
  · subst ec
    unfold nearT at g
    rw [if_pos (inW_lt hc)] at g
    walk_at "go"
    exact g
  · unfold nearT at g
    rw [if_neg (by rw [h]; exact Bool.false_ne_true)] at g
    walk_at "go"
    refine ⟨true, T.m_NoCell_NoCell, fun _ => ?_, fun z => Bool.noConfusion z⟩
    walk_at "go"
    exact g
/-! ### law -/
theorem same_ints {ns : List Nat} : nice (.tup (lotW ns)) = true ∧ pl (.tup (lotW ns)) = true ∧ dep (.tup (lotW ns)) ≤ 1 := by
  have h : ∀ w ∈ lotW ns, ∃ i : Nat, w = .int i := fun w hw => by
    unfold lotW at hw
    obtain ⟨i, _, rfl⟩ := List.mem_map.mp hw
    exact ⟨i, rfl⟩
  refine ⟨?_, pl_tup_of fun w hw => ?_, ?_⟩
  · unfold nice
    exact niceL_of fun w hw => by
      obtain ⟨i, rfl⟩ := h w hw
      rfl
  · obtain ⟨i, rfl⟩ := h w hw
    rfl
  · unfold dep
    have := depL_le (ws := lotW ns) (n := 0) fun w hw => by
      obtain ⟨i, rfl⟩ := h w hw
      exact Nat.le_refl _
    omega
theorem same_spots {sp : List (Nat × Nat)} : nice (.tup (sp.map spD)) = true ∧ pl (.tup (sp.map spD)) = true ∧ dep (.tup (sp.map spD)) ≤ 2 := by
  have h : ∀ w ∈ sp.map spD, ∃ i j : Nat, w = .tup [.int i, .int j] := fun w hw => by
    obtain ⟨i, _, rfl⟩ := List.mem_map.mp hw
    exact ⟨_, _, rfl⟩
  refine ⟨?_, pl_tup_of fun w hw => ?_, ?_⟩
  · unfold nice
    exact niceL_of fun w hw => by
      obtain ⟨i, j, rfl⟩ := h w hw
      rfl
  · obtain ⟨i, j, rfl⟩ := h w hw
    rfl
  · unfold dep
    have := depL_le (ws := sp.map spD) (n := 1) fun w hw => by
      obtain ⟨i, j, rfl⟩ := h w hw
      exact Nat.le_of_ble_eq_true rfl
    omega
theorem near_same (R : Rws) (w : Dt) : nice (nearT R w) = true ∧ pl (nearT R w) = true ∧ dep (nearT R w) ≤ 2 := by
  unfold nearT
  split
  · generalize tieF (spotsF R) _ = l
    obtain ⟨h1, h2, h3⟩ := same_ints (ns := l)
    refine ⟨?_, pl_tup_of fun x hx => ?_, ?_⟩
    · unfold nice nice.niceL nice.niceL nice.niceL
      rw [h1]
      rfl
    · simp only [List.mem_cons, List.not_mem_nil, or_false] at hx
      rcases hx with rfl | rfl
      · rfl
      · exact h2
    · show 1 + max 0 (max (dep (.tup (lotW l))) 0) ≤ 2
      omega
  · exact ⟨rfl, rfl, Nat.le_of_ble_eq_true rfl⟩
theorem badW_some {w b : Dt} (h : badW w = some b) : (∃ i, b = .int i) ∨ b = .str "homes" := by
  cases w with
  | tup xs =>
    unfold badW at h
    dsimp only at h
    split at h
    · split at h
      · injection h with h
        exact .inl ⟨_, h.symm⟩
      · split at h
        · cases h
        · injection h with h
          exact .inr h.symm
    · injection h with h
      exact .inl ⟨_, h.symm⟩
  | _ =>
    unfold badW at h
    injection h with h
    exact .inl ⟨_, h.symm⟩
theorem badW_good' {w : Dt} (h : badW w = none) : ∃ R, GoodF R ∧ w = .tup (R.map rowS) := by
  obtain ⟨xs, rfl, h1, h2, h3, h4, h5⟩ := badW_tup h
  unfold badRow at h3
  rw [List.findIdx?_eq_none_iff] at h3
  have hok : ∀ (j : Nat) (v : Dt), xs[j]? = some v → (!frowW v || !decide (lenW v = lenW (xs.headD .non))) = false := fun j v e => h3 v (List.mem_of_getElem? e)
  refine ⟨xs.map rowOf, good_of h1 h2 hok h4 h5, ?_⟩
  rw [rows_of fun w hw => by
    have := h3 w hw
    rw [Bool.or_eq_false_iff, Bool.not_eq_false'] at this
    exact this.1]
theorem ok_law {f : Addr} {fd : FuncData} (T : Txt P w K mg base c_BadFloor c_NoCell c_Floor) (F : L2.Fun K "law" "law" s_law f fd) (C__law_same : Cal P w K mg base "_law_same" 5 ["_law_actual", "_law_due"] 2 (G__law_same 4)) (C__law_near_told : Cal P w K mg base "_law_near_told" 6 ["_law_floor", "_law_cell"] 2 (G__law_near_told c_Floor)) (C__law_is_within : Cal P w K mg base "_law_is_within" 2 ["_law_thing", "_law_least", "_law_most"] 3 G__law_is_within) (C__law_pick : Cal P w K mg base "_law_pick" 2 ["_law_hand_here", "_law_things"] 2 G__law_pick) (C__law_odd : Cal P w K mg base "_law_odd" 2 ["_law_hand_here"] 1 G__law_odd) (C__law_take : Cal P w K mg base "_law_take" 1 ["_law_hand_here", "_law_many"] 2 G__law_take) (C_stations : Cal P w K mg base "stations" 1 ["floor"] 1 (G_stations c_Floor)) (C_homes : Cal P w K mg base "homes" 1 ["floor"] 1 (G_homes c_Floor)) (C_cells : Cal P w K mg base "cells" 1 ["floor"] 1 (G_cells c_Floor)) (C__law_plan_of : Cal P w K mg base "_law_plan_of" 2 ["_law_rows_here"] 1 G__law_plan_of) (C_Floor_init : CalI P w K mg base "Floor" c_Floor 3 ["self", "rows"] 2 (G_Floor_init c_Floor c_BadFloor)) (C__law_spoilt : Cal P w K mg base "_law_spoilt" 3 ["_law_hand_here", "_law_rows_here"] 2 G__law_spoilt) (C_Floor_eq : CalM P w K mg base c_Floor "__eq__" 1 ["self", "other"] 2 (G_Floor_eq c_Floor)) (C__law_made : Cal P w K mg base "_law_made" 5 ["_law_rows_here"] 1 (G__law_made c_Floor)) (C__law_bad_rows : Cal P w K mg base "_law_bad_rows" 1 ["_law_thing"] 1 G__law_bad_rows) (C__law_rows : Cal P w K mg base "_law_rows" 4 ["_law_hand_here", "_law_most"] 2 G__law_rows) (C__law_hand : Cal P w K mg base "_law_hand" 1 ["_law_script"] 1 G__law_hand) : FnOk P w K mg base (L2.CX P w) 7 f fd ["_law_script"] (spOf K 1 (lawG 63)) := by
  refine ok_w F sc_law (lawG 63) rfl fun cdv A outer s H E hr => ?_
  have hu := hr.units
  refine ⟨_, (jss_cons (js_set (je_cal C__law_hand (hr.mono (by omega)) takes_def (by rfl) (ja_cons (je_var (pv 0)) ja_nil)) (pg_name (i := 1) sc_law.nd rfl (by first | exact Or.inl rfl | exact Or.inr rfl))) (jss_cons (js_set (je_cal C__law_rows (hr.mono (by omega)) takes_def (by rfl) (ja_cons (je_var (pv 1)) (ja_cons (je_cal C__law_pick (hr.mono (by omega)) takes_def (by rfl) (ja_cons (je_var (pv 1)) (ja_cons (je_frz (jl_lst (ja_cons je_int (ja_cons je_int (ja_cons je_int (ja_cons je_int ja_nil)))))) ja_nil))) ja_nil))) (pg_name (i := 2) sc_law.nd rfl (by first | exact Or.inl rfl | exact Or.inr rfl))) (jss_cons (js_for passes_def rfl (ji_seq (je_frz (jl_lst (ja_cons (je_var (pv 2)) (ja_cons (je_cal C__law_spoilt (hr.mono (by omega)) takes_def (by rfl) (ja_cons (je_var (pv 1)) (ja_cons (je_var (pv 2)) ja_nil))) (ja_cons (je_cal C__law_spoilt (hr.mono (by omega)) takes_def (by rfl) (ja_cons (je_var (pv 1)) (ja_cons (je_var (pv 2)) ja_nil))) (ja_cons (je_cal C__law_spoilt (hr.mono (by omega)) takes_def (by rfl) (ja_cons (je_var (pv 1)) (ja_cons (je_var (pv 2)) ja_nil))) ja_nil))))))) (jg_name (pg_name (i := 3) sc_law.nd rfl (by first | exact Or.inl rfl | exact Or.inr rfl))) (jss_cons (js_set (je_cal C__law_bad_rows (hr.mono (by omega)) takes_def (by rfl) (ja_cons (je_var (pv 3)) ja_nil)) (pg_name (i := 10) sc_law.nd rfl (by first | exact Or.inl rfl | exact Or.inr rfl))) (jss_cons (js_set (je_tup (ja_cons je_str (ja_cons (je_var (pv 10)) ja_nil))) (pg_name (i := 11) sc_law.nd rfl (by first | exact Or.inl rfl | exact Or.inr rfl))) (jss_cons (js_if (jt_cmp o_is (je_var (pv 10)) je_non (nomark _)) (jss_one (js_set (je_tup (ja_cons je_str (ja_cons (je_var (pv 3)) ja_nil))) (pg_name (i := 11) sc_law.nd rfl (by first | exact Or.inl rfl | exact Or.inr rfl)))) jss_nil) (jss_cons (js_if (jt_not (jt_val (je_cal C__law_same (hr.mono (by omega)) takes_def (by rfl) (ja_cons (je_cal C__law_made (hr.mono (by omega)) takes_def (by rfl) (ja_cons (je_var (pv 3)) ja_nil)) (ja_cons (je_var (pv 11)) ja_nil))))) (jss_one (js_ret je_bl)) jss_nil) (jss_one (js_if (jt_w (jw_and (jt_cmp o_is (je_var (pv 10)) je_non (nomark _)) (jw_one (jt_w (jw_or (jt_cmp (o_ne hu) (je_cmp (o_eqO (ns0 := ["rows", "spots", "ties", "rests", "stops"]) C_Floor_eq T.q_Floor (hr.mono (by omega))) (je_frzI (je_make C_Floor_init (hr.mono (by omega)) takes_def (by rfl) (ja_cons (je_var (pv 3)) ja_nil))) (je_frzI (je_make C_Floor_init (hr.mono (by omega)) takes_def (by rfl) (ja_cons (je_var (pv 2)) ja_nil))) (nomark _)) (je_cmp (o_eq hu) (je_var (pv 3)) (je_var (pv 2)) (nomark _)) (nomark _)) (jw_one (jt_cmp (o_eqO (ns0 := ["rows", "spots", "ties", "rests", "stops"]) C_Floor_eq T.q_Floor (hr.mono (by omega))) (je_frzI (je_make C_Floor_init (hr.mono (by omega)) takes_def (by rfl) (ja_cons (je_var (pv 3)) ja_nil))) (je_var (pv 3)) (nomark _)))))))) (jss_one (js_ret je_bl)) jss_nil))))))) (jss_cons (js_set (je_frzI (je_make C_Floor_init (hr.mono (by omega)) takes_def (by rfl) (ja_cons (je_var (pv 2)) ja_nil))) (pg_name (i := 4) sc_law.nd rfl (by first | exact Or.inl rfl | exact Or.inr rfl))) (jss_cons (js_asg (je_cal C__law_plan_of (hr.mono (by omega)) takes_def (by rfl) (ja_cons (je_var (pv 2)) ja_nil)) (jg_tup (n := 4) rfl (jgs_cons (jg_name (pg_name (i := 5) sc_law.nd rfl (by first | exact Or.inl rfl | exact Or.inr rfl))) (jgs_cons (jg_name (pg_name (i := 6) sc_law.nd rfl (by first | exact Or.inl rfl | exact Or.inr rfl))) (jgs_cons (jg_name (pg_name (i := 7) sc_law.nd rfl (by first | exact Or.inl rfl | exact Or.inr rfl))) (jgs_cons (jg_name (pg_name (i := 8) sc_law.nd rfl (by first | exact Or.inl rfl | exact Or.inr rfl))) jgs_nil)))))) (jss_cons (js_if (jt_w (jw_or (jt_not (jt_val (je_cal C__law_same (hr.mono (by omega)) takes_def (by rfl) (ja_cons (je_cal C_cells (hr.mono (by omega)) takes_def (by rfl) (ja_cons (je_var (pv 4)) ja_nil)) (ja_cons (je_callT c_tuple (by rfl) T.n_tuple (by decide +kernel) (ja_cons (je_var (pv 5)) ja_nil)) ja_nil))))) (jw_one (jt_not (jt_val (je_cal C__law_same (hr.mono (by omega)) takes_def (by rfl) (ja_cons (je_cal C_homes (hr.mono (by omega)) takes_def (by rfl) (ja_cons (je_var (pv 4)) ja_nil)) (ja_cons (je_callT c_tuple (by rfl) T.n_tuple (by decide +kernel) (ja_cons (je_var (pv 7)) ja_nil)) ja_nil)))))))) (jss_one (js_ret je_bl)) jss_nil) (jss_cons (js_if (jt_not (jt_val (je_cal C__law_same (hr.mono (by omega)) takes_def (by rfl) (ja_cons (je_cal C_stations (hr.mono (by omega)) takes_def (by rfl) (ja_cons (je_var (pv 4)) ja_nil)) (ja_cons (je_callT c_tuple (by rfl) T.n_tuple (by decide +kernel) (ja_cons (je_var (pv 8)) ja_nil)) ja_nil))))) (jss_one (js_ret je_bl)) jss_nil) (jss_cons (js_for passes_def rfl (ji_rng1 (by rfl) T.n_range (ja_cons je_int ja_nil)) (jg_name (pg_name (i := 9) sc_law.nd rfl (by first | exact Or.inl rfl | exact Or.inr rfl))) (jss_cons (js_set (je_cal C__law_pick (hr.mono (by omega)) takes_def (by rfl) (ja_cons (je_var (pv 1)) (ja_cons (je_frz (jl_lst (ja_cons (je_cal C__law_take (hr.mono (by omega)) takes_def (by rfl) (ja_cons (je_var (pv 1)) (ja_cons (je_callB (c_len) (by rfl) T.n_len (by decide +kernel) (ja_cons (je_var (pv 5)) ja_nil)) ja_nil))) (ja_cons (je_cal C__law_take (hr.mono (by omega)) takes_def (by rfl) (ja_cons (je_var (pv 1)) (ja_cons (je_callB (c_len) (by rfl) T.n_len (by decide +kernel) (ja_cons (je_var (pv 5)) ja_nil)) ja_nil))) (ja_cons (je_callB (c_len) (by rfl) T.n_len (by decide +kernel) (ja_cons (je_var (pv 5)) ja_nil)) (ja_cons (je_un o_neg je_int) (ja_cons je_bl (ja_cons (je_cal C__law_odd (hr.mono (by omega)) takes_def (by rfl) (ja_cons (je_var (pv 1)) ja_nil)) ja_nil)))))))) ja_nil))) (pg_name (i := 12) sc_law.nd rfl (by first | exact Or.inl rfl | exact Or.inr rfl))) (jss_cons (js_set (je_tup (ja_cons je_str ja_nil)) (pg_name (i := 11) sc_law.nd rfl (by first | exact Or.inl rfl | exact Or.inr rfl))) (jss_cons (js_if (jt_val (je_cal C__law_is_within (hr.mono (by omega)) takes_def (by rfl) (ja_cons (je_var (pv 12)) (ja_cons je_int (ja_cons (je_op o_sub (je_callB (c_len) (by rfl) T.n_len (by decide +kernel) (ja_cons (je_var (pv 5)) ja_nil)) je_int) ja_nil))))) (jss_one (js_set (je_tup (ja_cons je_str (ja_cons (je_callT c_tuple (by rfl) T.n_tuple (by decide +kernel) (ja_cons (je_ix o_ix (je_var (pv 6)) (je_var (pv 12)) (fun _ _ => rfl)) ja_nil)) ja_nil))) (pg_name (i := 11) sc_law.nd rfl (by first | exact Or.inl rfl | exact Or.inr rfl)))) jss_nil) (jss_one (js_if (jt_not (jt_val (je_cal C__law_same (hr.mono (by omega)) takes_def (by rfl) (ja_cons (je_cal C__law_near_told (hr.mono (by omega)) takes_def (by rfl) (ja_cons (je_var (pv 4)) (ja_cons (je_var (pv 12)) ja_nil))) (ja_cons (je_var (pv 11)) ja_nil))))) (jss_one (js_ret je_bl)) jss_nil)))))) (jss_one (js_ret (je_cal C__law_same (hr.mono (by omega)) takes_def (by rfl) (ja_cons (je_fld (ns0 := ["rows", "spots", "ties", "rests", "stops"]) (i := 0) T.fd_Floor_rows (fieldAt_of (by decide +kernel)) (je_var (pv 4))) (ja_cons (je_var (pv 2)) ja_nil))))))))))))), fun ws S Q Ex hl g => ?_⟩
  obtain ⟨ns, rfl, hns, rfl, g⟩ := g
  have mk : ∀ (R : Rws) (hR : GoodF R) (S : Store) (p : Addr) (hp : S p = none) (Q : Dt → Store → Prop) (Ex : Exn → Store → Prop), (∀ ns fs, floorD c_Floor R = .ins c_Floor ns fs → Q .non (sup S p (.ins c_Floor ns fs))) → G_Floor_init c_Floor c_BadFloor [.ref p, .tup (R.map rowS)] (sup S p (.ins c_Floor [] [])) Q Ex := fun R hR S p hp Q Ex q =>
    ⟨p, S, _, rfl, rfl, hp, rows_pl R, fun xs e x hx z ez => by
      injection e with e
      subst e
      exact (okl_rows hR x hx).2 z ez, fun R' hR' e ns fs ef => by
      obtain rfl := rows_inj e
      exact q ns fs ef, fun b hb => by
      rw [badW_good hR] at hb
      cases hb⟩
  walk_at "go"
  refine ⟨ns, rfl, fun h hd hh0 hh => ?_⟩
  walk_at "go"
  refine ⟨h, _, _, hd, rfl, rfl, hh, by simp, by simp, fun x hd hx hh => ?_⟩
  obtain ⟨m, rfl, m0, m1⟩ : ∃ m : Int, x = .int m ∧ 1 ≤ m ∧ m ≤ 12 := by
    simp only [List.mem_cons, List.not_mem_nil, or_false] at hx
    rcases hx with rfl | rfl | rfl | rfl <;> exact ⟨_, rfl, by decide, by decide⟩
  walk_at "go"
  refine ⟨h, m, _, hd, rfl, rfl, hh, m0, m1, fun R hd hR hh => ?_⟩
  walk_at "go"
  refine ⟨h, R, _, hd, rfl, rfl, hh, hR, fun t1 hd o1 hh => ?_⟩
  walk_at "go"
  refine ⟨h, R, _, hd, rfl, rfl, hh, hR, fun t2 hd o2 hh => ?_⟩
  walk_at "go"
  refine ⟨h, R, _, hd, rfl, rfl, hh, hR, fun t3 hd o3 hh => ?_⟩
  walk_at "go"
  have hok : ∀ w ∈ [Dt.tup (R.map rowS), t1, t2, t3], OkT w := by
    intro w hw
    simp only [List.mem_cons, List.not_mem_nil, or_false] at hw
    rcases hw with rfl | rfl | rfl | rfl
    · exact (okl_rows hR).tup
    · exact o1
    · exact o2
    · exact o3
  have dR := rows_dep R
  generalize [Dt.tup (R.map rowS), t1, t2, t3] = things at hok
  refine forW_rule (fun i σ S' => ∃ (y4 y5 y6 : Option Dt), σ = [some (.kl (ns.map Dt.int)), some (.ref h), some (.tup (R.map rowS)), y4, none, none, none, none, none, none, y5, y6, none] ∧ S' = sup (fun _ => none) h (.lst hd)) ⟨_, _, _, rfl, rfl⟩ ?_ ?_
  · rintro i w σ S' N ew ⟨y4, y5, y6, rfl, rfl⟩ hN
    have hw := hok w (List.mem_of_getElem? ew)
    refine ⟨trivial, ?_⟩
    walk_at "go"
    refine ⟨w, rfl, hw, ?_⟩
    cases eb : badW w with
    | some b =>
      have e1 : badD w = b := by unfold badD; rw [eb]
      have e2 : madeW w = .tup [.str "BadFloor", b] := by unfold madeW; rw [eb]
      rw [e1]
      walk_at "go"
      rcases badW_some eb with ⟨i0, rfl⟩ | rfl
      all_goals
        walk_at "go"
        refine ⟨_, rfl, hw, ?_⟩
        rw [e2]
        walk_at "go"
        refine ⟨_, _, rfl, rfl, rfl, by first | exact Nat.le_of_ble_eq_true rfl | decide, ?_⟩
        rw [sameW_self (by rfl)]
        walk_at "go"
        exact hN _ _ ⟨_, _, _, rfl, rfl⟩
    | none =>
      have e1 : badD w = .non := by unfold badD; rw [eb]
      have e2 : madeW w = .tup [.str "told", w] := by unfold madeW; rw [eb]
      rw [e1]
      obtain ⟨R', hR', rfl⟩ := badW_good' eb
      walk_at "go"
      refine ⟨_, rfl, hw, ?_⟩
      rw [e2]
      walk_at "go"
      have dR' := rows_dep R'
      have ni : nice (.tup [.str "told", .tup (R'.map rowS)]) = true := by
        unfold nice nice.niceL nice.niceL nice.niceL
        rw [rows_nice]
        rfl
      have de : dep (.tup [.str "told", .tup (R'.map rowS)]) = 1 + max 0 (max (dep (.tup (R'.map rowS))) 0) := rfl
      refine ⟨_, _, rfl, ?_, ni, by omega, ?_⟩
      · exact pl_tup_of fun x hx => by
          simp only [List.mem_cons, List.not_mem_nil, or_false] at hx
          rcases hx with rfl | rfl
          · rfl
          · exact rows_pl R'
      rw [sameW_self ni]
      walk_at "go"
      intro p hp
      refine mk _ hR' _ _ hp _ _ fun _ _ ef => ?_
      injection ef with e1 e2 e3
      subst e2 e3
      walk_at "go"
      rw [sdel_sup hp]
      walk_at "go"
      intro p hp
      refine mk _ hR _ _ hp _ _ fun _ _ ef => ?_
      injection ef with e1 e2 e3
      subst e2 e3
      walk_at "go"
      rw [sdel_sup hp]
      walk_at "go"
      refine ⟨.inr rfl, R', _, rfl, hR', .inl ⟨R, rfl, hR, ?_⟩⟩
      walk_at "go"
      refine ⟨rows_fl hR', rows_fl hR, ?_⟩
      rw [eqD_rows]
      cases decide (R' = R)
      all_goals
        walk_at "go"
        intro p hp
        refine mk _ hR' _ _ hp _ _ fun _ _ ef => ?_
        injection ef with e1 e2 e3
        subst e2 e3
        walk_at "go"
        rw [sdel_sup hp]
        walk_at "go"
        refine ⟨.inl ⟨_, rfl, by decide⟩, R', _, rfl, hR', .inr ⟨_, rfl, ?_⟩⟩
        walk_at "go"
        exact hN _ _ ⟨_, _, _, rfl, rfl⟩
  · rintro σ S' ⟨y4, y5, y6, rfl, rfl⟩
    refine ⟨trivial, ?_⟩
    walk_at "go"
    intro p hp
    refine mk _ hR _ _ hp _ _ fun _ _ ef => ?_
    injection ef with e1 e2 e3
    subst e2 e3
    walk_at "go"
    rw [sdel_sup hp]
    walk_at "go"
    refine ⟨R, rfl, hR, ?_⟩
    walk_at "go"
    refine ⟨R, rfl, ?_⟩
    walk_at "go"
    obtain ⟨n1, n2, n3⟩ := same_spots (sp := spotsF R)
    refine ⟨_, _, rfl, n2, n1, by omega, ?_⟩
    rw [sameW_self n1]
    walk_at "go"
    refine ⟨R, rfl, ?_⟩
    walk_at "go"
    obtain ⟨n1, n2, n3⟩ := same_ints (ns := ofF R 72)
    refine ⟨_, _, rfl, n2, n1, by omega, ?_⟩
    rw [sameW_self n1]
    walk_at "go"
    refine ⟨R, rfl, ?_⟩
    walk_at "go"
    obtain ⟨n1, n2, n3⟩ := same_ints (ns := ofF R 83)
    refine ⟨_, _, rfl, n2, n1, by omega, ?_⟩
    rw [sameW_self n1]
    walk_at "go"
    have hsl := spots_len hR
    have hsp : 0 < (spotsF R).length := by
      have h1 := ofF_pos hR
      exact Nat.lt_of_le_of_lt (Nat.zero_le _) (ofF_lt (List.getElem_mem h1))
    refine forW_rule (fun i σ S' => ∃ (hd : List Dt) (y3 y9 y10 y11 y12 : Option Dt), σ = [some (.kl (ns.map Dt.int)), some (.ref h), some (.tup (R.map rowS)), y3, some (floorD c_Floor R), some (.lst ((spotsF R).map spD)), some (.lst ((tiesF (spotsF R)).map fun l => .lst (lotW l))), some (.lst (lotW (ofF R 72))), some (.lst (lotW (ofF R 83))), y9, y10, y11, y12] ∧ S' = sup (fun _ => none) h (.lst hd) ∧ HandL hd) ⟨hd, _, _, _, _, _, rfl, rfl, hh⟩ ?_ ?_
    · clear hh
      rintro i w σ S' N ew ⟨hd, y3, y9, y10, y11, y12, rfl, rfl, hh⟩ hN
      refine ⟨trivial, ?_⟩
      have l3 : ((spotsF R).map spD).length = (spotsF R).length := List.length_map ..
      walk_at "go"
      rw [l3]
      refine ⟨h, _, _, hd, rfl, rfl, hh, by omega, log_small (by omega), fun a hd a0 a1 hh => ?_⟩
      walk_at "go"
      rw [l3]
      refine ⟨h, _, _, hd, rfl, rfl, hh, by omega, log_small (by omega), fun b hd b0 b1 hh => ?_⟩
      walk_at "go"
      refine ⟨h, _, hd, rfl, rfl, hh, fun x hd hx hh => ?_⟩
      walk_at "go"
      refine ⟨h, _, _, hd, rfl, rfl, hh, by simp, by simp, fun y hd hy hh => ?_⟩
      have py : pl y = true := by
        simp only [List.mem_cons, List.not_mem_nil, or_false] at hy
        rcases hy with rfl | rfl | rfl | rfl | rfl | rfl <;> first | rfl | exact odds_pl _ hx
      clear hy hx x a0 a1 b0 b1 a b
      walk_at "go"
      rw [l3]
      refine ⟨y, _, _, rfl, kn_pl py, ?_⟩
      obtain ⟨q1, q2, q3⟩ := near_same R y
      cases hin : inW y 0 ((spotsF R).length - 1) with
      | true =>
        obtain ⟨c, rfl, hc⟩ := inW_nat hin
        have en : nearT R (.int (c : Nat)) = .tup [.str "told", .tup (lotW (tieF (spotsF R) ((spotsF R).getD c (0, 0))))] := by
          unfold nearT
          rw [if_pos hin]
          rfl
        walk_at "go"
        rw [atI_map [] (by rw [ties_len]; exact hc), tie_at hc]
        walk_at "go"
        refine ⟨R, _, rfl, kn_pl py, ?_⟩
        walk_at "go"
        refine ⟨_, _, rfl, q2, by rw [← en]; exact q1, by rw [← en]; omega, ?_⟩
        rw [← en, sameW_self q1]
        walk_at "go"
        exact hN _ _ ⟨_, _, _, _, _, _, rfl, rfl, hh⟩
      | false =>
        walk_at "go"
        refine ⟨R, y, rfl, kn_pl py, ?_⟩
        walk_at "go"
        have en : nearT R y = .tup [.str "NoCell"] := by
          unfold nearT
          rw [if_neg (by rw [hin]; exact Bool.false_ne_true)]
        refine ⟨_, _, rfl, q2, by rfl, Nat.le_of_ble_eq_true rfl, ?_⟩
        rw [en, sameW_self (by rfl)]
        walk_at "go"
        exact hN _ _ ⟨_, _, _, _, _, _, rfl, rfl, hh⟩
    · rintro σ S' ⟨hd, y3, y9, y10, y11, y12, rfl, rfl, hh⟩
      refine ⟨trivial, ?_⟩
      walk_at "go"
      refine ⟨_, _, rfl, rows_pl R, rows_nice R, by omega, ?_⟩
      rw [sameW_self (rows_nice R)]
      walk_at "go"
      exact clo.of (g _)
end
theorem all_mk {P : Program} {w : World} {K : Frg} {mg : Str → Option Value} {h : Heap} {fa : Addr}
    {tk_WALL : Tok}
    {tk_FREE : Tok}
    {tk_HOME : Tok}
    {tk_STATION : Tok}
    {tk_MOST_ROWS : Tok}
    {tk_MOST_HOMES : Tok}
    {fI_BadFloor N_BadFloor : Addr} {nm_BadFloor q_BadFloor : Str} {bs_BadFloor bm_BadFloor sub_BadFloor : List Value} {sn_BadFloor : List Str} {ab_BadFloor : Bool} {col_BadFloor : Option Bool} {dd_BadFloor od_BadFloor an_BadFloor : Option Addr} {k0_BadFloor k1_BadFloor k2_BadFloor k3_BadFloor k5_BadFloor : Option Value} {oc_BadFloor kV_BadFloor dc_BadFloor pm_BadFloor cd_BadFloor ct_BadFloor : Value} {sl_BadFloor : Array (Option Value)}
    {c_Floor : Addr}
    {c_BadFloor c_NoCell : Addr}
    {f__law_hand : Addr} {oc__law_hand kV__law_hand dc__law_hand pm__law_hand cd__law_hand ct__law_hand : Value} {od__law_hand an__law_hand : Option Addr} {sl__law_hand : Array (Option Value)}
    {f__law_take : Addr} {oc__law_take kV__law_take dc__law_take pm__law_take cd__law_take ct__law_take : Value} {od__law_take an__law_take : Option Addr} {sl__law_take : Array (Option Value)}
    {f__law_pick : Addr} {oc__law_pick kV__law_pick dc__law_pick pm__law_pick cd__law_pick ct__law_pick : Value} {od__law_pick an__law_pick : Option Addr} {sl__law_pick : Array (Option Value)}
    {f__law_signs : Addr} {oc__law_signs kV__law_signs dc__law_signs pm__law_signs cd__law_signs ct__law_signs : Value} {od__law_signs an__law_signs : Option Addr} {sl__law_signs : Array (Option Value)}
    {f__law_rows : Addr} {oc__law_rows kV__law_rows dc__law_rows pm__law_rows cd__law_rows ct__law_rows : Value} {od__law_rows an__law_rows : Option Addr} {sl__law_rows : Array (Option Value)}
    {f_all_spots : Addr} {oc_all_spots kV_all_spots dc_all_spots pm_all_spots cd_all_spots ct_all_spots : Value} {od_all_spots an_all_spots : Option Addr} {sl_all_spots : Array (Option Value)}
    {f_all_ties : Addr} {oc_all_ties kV_all_ties dc_all_ties pm_all_ties cd_all_ties ct_all_ties : Value} {od_all_ties an_all_ties : Option Addr} {sl_all_ties : Array (Option Value)}
    {f_spots_of : Addr} {oc_spots_of kV_spots_of dc_spots_of pm_spots_of cd_spots_of ct_spots_of : Value} {od_spots_of an_spots_of : Option Addr} {sl_spots_of : Array (Option Value)}
    {f_is_sized : Addr} {oc_is_sized kV_is_sized dc_is_sized pm_is_sized cd_is_sized ct_is_sized : Value} {od_is_sized an_is_sized : Option Addr} {sl_is_sized : Array (Option Value)}
    {f_is_row : Addr} {oc_is_row kV_is_row dc_is_row pm_is_row cd_is_row ct_is_row : Value} {od_is_row an_is_row : Option Addr} {sl_is_row : Array (Option Value)}
    {f_Floor_init : Addr} {oc_Floor_init kV_Floor_init dc_Floor_init pm_Floor_init cd_Floor_init ct_Floor_init : Value} {od_Floor_init an_Floor_init : Option Addr} {sl_Floor_init : Array (Option Value)}
    {f__law_cells : Addr} {oc__law_cells kV__law_cells dc__law_cells pm__law_cells cd__law_cells ct__law_cells : Value} {od__law_cells an__law_cells : Option Addr} {sl__law_cells : Array (Option Value)}
    {f__law_near : Addr} {oc__law_near kV__law_near dc__law_near pm__law_near cd__law_near ct__law_near : Value} {od__law_near an__law_near : Option Addr} {sl__law_near : Array (Option Value)}
    {f__law_of_sign : Addr} {oc__law_of_sign kV__law_of_sign dc__law_of_sign pm__law_of_sign cd__law_of_sign ct__law_of_sign : Value} {od__law_of_sign an__law_of_sign : Option Addr} {sl__law_of_sign : Array (Option Value)}
    {f__law_plan_of : Addr} {oc__law_plan_of kV__law_plan_of dc__law_plan_of pm__law_plan_of cd__law_plan_of ct__law_plan_of : Value} {od__law_plan_of an__law_plan_of : Option Addr} {sl__law_plan_of : Array (Option Value)}
    {f__law_is_integer : Addr} {oc__law_is_integer kV__law_is_integer dc__law_is_integer pm__law_is_integer cd__law_is_integer ct__law_is_integer : Value} {od__law_is_integer an__law_is_integer : Option Addr} {sl__law_is_integer : Array (Option Value)}
    {f__law_same : Addr} {oc__law_same kV__law_same dc__law_same pm__law_same cd__law_same ct__law_same : Value} {od__law_same an__law_same : Option Addr} {sl__law_same : Array (Option Value)}
    {f__law_odd : Addr} {oc__law_odd kV__law_odd dc__law_odd pm__law_odd cd__law_odd ct__law_odd : Value} {od__law_odd an__law_odd : Option Addr} {sl__law_odd : Array (Option Value)}
    {f__law_spoilt : Addr} {oc__law_spoilt kV__law_spoilt dc__law_spoilt pm__law_spoilt cd__law_spoilt ct__law_spoilt : Value} {od__law_spoilt an__law_spoilt : Option Addr} {sl__law_spoilt : Array (Option Value)}
    {f__law_bad_rows : Addr} {oc__law_bad_rows kV__law_bad_rows dc__law_bad_rows pm__law_bad_rows cd__law_bad_rows ct__law_bad_rows : Value} {od__law_bad_rows an__law_bad_rows : Option Addr} {sl__law_bad_rows : Array (Option Value)}
    {f__law_is_within : Addr} {oc__law_is_within kV__law_is_within dc__law_is_within pm__law_is_within cd__law_is_within ct__law_is_within : Value} {od__law_is_within an__law_is_within : Option Addr} {sl__law_is_within : Array (Option Value)}
    {f_stations : Addr} {oc_stations kV_stations dc_stations pm_stations cd_stations ct_stations : Value} {od_stations an_stations : Option Addr} {sl_stations : Array (Option Value)}
    {f__law_made : Addr} {oc__law_made kV__law_made dc__law_made pm__law_made cd__law_made ct__law_made : Value} {od__law_made an__law_made : Option Addr} {sl__law_made : Array (Option Value)}
    {f_Floor_eq : Addr} {oc_Floor_eq kV_Floor_eq dc_Floor_eq pm_Floor_eq cd_Floor_eq ct_Floor_eq : Value} {od_Floor_eq an_Floor_eq : Option Addr} {sl_Floor_eq : Array (Option Value)}
    {f_cells : Addr} {oc_cells kV_cells dc_cells pm_cells cd_cells ct_cells : Value} {od_cells an_cells : Option Addr} {sl_cells : Array (Option Value)}
    {f_homes : Addr} {oc_homes kV_homes dc_homes pm_homes cd_homes ct_homes : Value} {od_homes an_homes : Option Addr} {sl_homes : Array (Option Value)}
    {f_is_integer : Addr} {oc_is_integer kV_is_integer dc_is_integer pm_is_integer cd_is_integer ct_is_integer : Value} {od_is_integer an_is_integer : Option Addr} {sl_is_integer : Array (Option Value)}
    {f_is_within : Addr} {oc_is_within kV_is_within dc_is_within pm_is_within cd_is_within ct_is_within : Value} {od_is_within an_is_within : Option Addr} {sl_is_within : Array (Option Value)}
    {f_is_below : Addr} {oc_is_below kV_is_below dc_is_below pm_is_below cd_is_below ct_is_below : Value} {od_is_below an_is_below : Option Addr} {sl_is_below : Array (Option Value)}
    {f_is_cell : Addr} {oc_is_cell kV_is_cell dc_is_cell pm_is_cell cd_is_cell ct_is_cell : Value} {od_is_cell an_is_cell : Option Addr} {sl_is_cell : Array (Option Value)}
    {f_neighbours : Addr} {oc_neighbours kV_neighbours dc_neighbours pm_neighbours cd_neighbours ct_neighbours : Value} {od_neighbours an_neighbours : Option Addr} {sl_neighbours : Array (Option Value)}
    {f__law_near_told : Addr} {oc__law_near_told kV__law_near_told dc__law_near_told pm__law_near_told cd__law_near_told ct__law_near_told : Value} {od__law_near_told an__law_near_told : Option Addr} {sl__law_near_told : Array (Option Value)}
    {f_law : Addr} {oc_law kV_law dc_law pm_law cd_law ct_law : Value} {od_law an_law : Option Addr} {sl_law : Array (Option Value)}
    (KX : K.In h) (G : h.Ns mainGlobals mg) (hmg : mg "law" = some (.ref fa))
    (n_list : PySem.W.nsIn K mainGlobals "list" = some none)
    (n_int : PySem.W.nsIn K mainGlobals "int" = some none)
    (n_len : PySem.W.nsIn K mainGlobals "len" = some none)
    (n_tuple : PySem.W.nsIn K mainGlobals "tuple" = some none)
    (n_range : PySem.W.nsIn K mainGlobals "range" = some none)
    (n_enumerate : PySem.W.nsIn K mainGlobals "enumerate" = some none)
    (g_WALL : PySem.W.nsIn K mainGlobals "WALL" = some (some (.str "#" tk_WALL)))
    (n_sorted : PySem.W.nsIn K mainGlobals "sorted" = some none)
    (n_isinstance : PySem.W.nsIn K mainGlobals "isinstance" = some none)
    (n_all : PySem.W.nsIn K mainGlobals "all" = some none)
    (g_FREE : PySem.W.nsIn K mainGlobals "FREE" = some (some (.str "." tk_FREE)))
    (g_HOME : PySem.W.nsIn K mainGlobals "HOME" = some (some (.str "H" tk_HOME)))
    (g_STATION : PySem.W.nsIn K mainGlobals "STATION" = some (some (.str "S" tk_STATION)))
    (g_MOST_ROWS : PySem.W.nsIn K mainGlobals "MOST_ROWS" = some (some (.int (12) tk_MOST_ROWS)))
    (n_str : PySem.W.nsIn K mainGlobals "str" = some none)
    (n_sum : PySem.W.nsIn K mainGlobals "sum" = some none)
    (g_MOST_HOMES : PySem.W.nsIn K mainGlobals "MOST_HOMES" = some (some (.int (6) tk_MOST_HOMES)))
    (aE_BadFloor : PySem.W.nsIn K mainGlobals "BadFloor" = some (some (.ref c_BadFloor)))
    (xL_BadFloor : K.lookup c_BadFloor = some (excClassObj nm_BadFloor q_BadFloor c_BadFloor N_BadFloor bs_BadFloor bm_BadFloor true sn_BadFloor sub_BadFloor ab_BadFloor col_BadFloor dd_BadFloor k0_BadFloor k1_BadFloor k2_BadFloor k3_BadFloor k5_BadFloor "ValueError.__new__"))
    (bR_BadFloor : PySem.HandSPX.refsVE bm_BadFloor = true)
    (sa_BadFloor : PySem.W.findIn K (.ref c_BadFloor) "__setattr__" = some (some (.builtin "object.__setattr__")))
    (ga_BadFloor : PySem.W.findIn K (.ref c_BadFloor) "__getattribute__" = some (some (.builtin "BaseException.__getattribute__")))
    (gg_BadFloor : PySem.W.findIn K (.ref c_BadFloor) "__getattr__" = some none)
    (no_BadFloor : PySem.W.findIn K (.ref c_BadFloor) "part" = some none)
    (iC_BadFloor : PySem.W.findIn K (.ref c_BadFloor) "__init__" = some (some (.ref fI_BadFloor)))
    (tI_BadFloor : PySem.W.typeIn K (.ref fI_BadFloor) = some (.type "function"))
    (lI_BadFloor : K.lookup fI_BadFloor = some ⟨oc_BadFloor, od_BadFloor, .func (PySem.W.fnOf "__init__" "BadFloor.__init__" (defArgs i_BadFloor) (defBody i_BadFloor) (defScope i_BadFloor) .none kV_BadFloor dc_BadFloor pm_BadFloor an_BadFloor cd_BadFloor ct_BadFloor), sl_BadFloor⟩)
    (cI_BadFloor : PySem.W.codeIn K cd_BadFloor "BadFloor.__init__" = true)
    (kI_BadFloor : PySem.W.keepIn K (.ref fI_BadFloor) = true)
    (kE_BadFloor : PySem.W.keepIn K (.ref c_BadFloor) = true)
    (bE_BadFloor : PySem.W.subIn K (.ref c_BadFloor) (.type "BaseException") = some true)
    (tE_BadFloor : PySem.W.typeIn K (.ref c_BadFloor) = some (.type "type"))
    (hE_BadFloor : PySem.W.hasDictIn K c_BadFloor = true)
    (n_abs : PySem.W.nsIn K mainGlobals "abs" = some none)
    (n_bool : PySem.W.nsIn K mainGlobals "bool" = some none)
    (n_zip : PySem.W.nsIn K mainGlobals "zip" = some none)
    (aE_NoCell : PySem.W.nsIn K mainGlobals "NoCell" = some (some (.ref c_NoCell)))
    (xE_NoCell : PySem.W.excIn K c_NoCell [.type "ValueError", .type "Exception", .type "BaseException", .type "object"] "ValueError.__new__" = true)
    (kE_NoCell : PySem.W.keepIn K (.ref c_NoCell) = true)
    (bE_NoCell : PySem.W.subIn K (.ref c_NoCell) (.type "BaseException") = some true)
    (tE_NoCell : PySem.W.typeIn K (.ref c_NoCell) = some (.type "type"))
    (aC_Floor : PySem.W.nsIn K mainGlobals "Floor" = some (some (.ref c_Floor)))
    (mC_Floor : PySem.W.makesIn K c_Floor = true)
    (kC_Floor : PySem.W.keepIn K (.ref c_Floor) = true)
    (pg_Floor : PySem.W.plainGet K c_Floor Str.empty = true)
    (hd_Floor : PySem.W.hasDictIn K c_Floor = true)
    (po_Floor : PySem.W.plainOver K c_Floor = true)
    (sa_Floor : PySem.W.findIn K (.ref c_Floor) "__setattr__" = some (some (.builtin "object.__setattr__")))
    (isn_ : PySem.W.specialIn K (.builtin "object.__class__") "__get__" = some (some (.builtin "getset_descriptor.__get__")))
    (ist_ : PySem.W.takesIn K (.builtin "object.__class__") = some true)
    (kt_Floor_NoneType : PySem.W.kitOne K (.type "NoneType") (.ref c_Floor) = some false)
    (kt_Floor_bool : PySem.W.kitOne K (.type "bool") (.ref c_Floor) = some false)
    (kt_Floor_int : PySem.W.kitOne K (.type "int") (.ref c_Floor) = some false)
    (kt_Floor_str : PySem.W.kitOne K (.type "str") (.ref c_Floor) = some false)
    (kt_Floor_tuple : PySem.W.kitOne K (.type "tuple") (.ref c_Floor) = some false)
    (kt_Floor_list : PySem.W.kitOne K (.type "list") (.ref c_Floor) = some false)
    (kt_Floor_dict : PySem.W.kitOne K (.type "dict") (.ref c_Floor) = some false)
    (isa_Floor : PySem.W.findIn K (.ref c_Floor) "__class__" = some (some (.builtin "object.__class__")))
    (ism_Floor : PySem.W.mroIn K c_Floor (.type "object") = some true)
    (isk_Floor : PySem.W.kitOne K (.ref c_Floor) (.ref c_Floor) = some true)
    (nf_Floor_NoneType : PySem.W.notFirst K c_Floor (.type "NoneType") = true)
    (nf_Floor_bool : PySem.W.notFirst K c_Floor (.type "bool") = true)
    (nf_Floor_int : PySem.W.notFirst K c_Floor (.type "int") = true)
    (nf_Floor_str : PySem.W.notFirst K c_Floor (.type "str") = true)
    (nf_Floor_tuple : PySem.W.notFirst K c_Floor (.type "tuple") = true)
    (nf_Floor_list : PySem.W.notFirst K c_Floor (.type "list") = true)
    (nf_Floor_dict : PySem.W.notFirst K c_Floor (.type "dict") = true)
    (no_Floor_spots : PySem.W.findIn K (.ref c_Floor) "spots" = some none)
    (no_Floor_stops : PySem.W.findIn K (.ref c_Floor) "stops" = some none)
    (no_Floor_rests : PySem.W.findIn K (.ref c_Floor) "rests" = some none)
    (no_Floor_ties : PySem.W.findIn K (.ref c_Floor) "ties" = some none)
    (no_Floor_rows : PySem.W.findIn K (.ref c_Floor) "rows" = some none)
    (m_BadFloor_BadFloor : PySem.W.exmOne K (.ref c_BadFloor) (.ref c_BadFloor) = some true)
    (m_NoCell_BadFloor : PySem.W.exmOne K (.ref c_NoCell) (.ref c_BadFloor) = some false)
    (m_BadFloor_NoCell : PySem.W.exmOne K (.ref c_BadFloor) (.ref c_NoCell) = some false)
    (m_NoCell_NoCell : PySem.W.exmOne K (.ref c_NoCell) (.ref c_NoCell) = some true)
    (a__law_hand : PySem.W.nsIn K mainGlobals "_law_hand" = some (some (.ref f__law_hand)))
    (l__law_hand : K.lookup f__law_hand = some ⟨oc__law_hand, od__law_hand, .func (PySem.W.fnOf "_law_hand" "_law_hand" (defArgs s__law_hand) (defBody s__law_hand) (defScope s__law_hand) .none kV__law_hand dc__law_hand pm__law_hand an__law_hand cd__law_hand ct__law_hand), sl__law_hand⟩)
    (c__law_hand_ : PySem.W.codeIn K cd__law_hand "_law_hand" = true)
    (k__law_hand : PySem.W.keepIn K (.ref f__law_hand) = true)
    (a__law_take : PySem.W.nsIn K mainGlobals "_law_take" = some (some (.ref f__law_take)))
    (l__law_take : K.lookup f__law_take = some ⟨oc__law_take, od__law_take, .func (PySem.W.fnOf "_law_take" "_law_take" (defArgs s__law_take) (defBody s__law_take) (defScope s__law_take) .none kV__law_take dc__law_take pm__law_take an__law_take cd__law_take ct__law_take), sl__law_take⟩)
    (c__law_take_ : PySem.W.codeIn K cd__law_take "_law_take" = true)
    (k__law_take : PySem.W.keepIn K (.ref f__law_take) = true)
    (a__law_pick : PySem.W.nsIn K mainGlobals "_law_pick" = some (some (.ref f__law_pick)))
    (l__law_pick : K.lookup f__law_pick = some ⟨oc__law_pick, od__law_pick, .func (PySem.W.fnOf "_law_pick" "_law_pick" (defArgs s__law_pick) (defBody s__law_pick) (defScope s__law_pick) .none kV__law_pick dc__law_pick pm__law_pick an__law_pick cd__law_pick ct__law_pick), sl__law_pick⟩)
    (c__law_pick_ : PySem.W.codeIn K cd__law_pick "_law_pick" = true)
    (k__law_pick : PySem.W.keepIn K (.ref f__law_pick) = true)
    (a__law_signs : PySem.W.nsIn K mainGlobals "_law_signs" = some (some (.ref f__law_signs)))
    (l__law_signs : K.lookup f__law_signs = some ⟨oc__law_signs, od__law_signs, .func (PySem.W.fnOf "_law_signs" "_law_signs" (defArgs s__law_signs) (defBody s__law_signs) (defScope s__law_signs) .none kV__law_signs dc__law_signs pm__law_signs an__law_signs cd__law_signs ct__law_signs), sl__law_signs⟩)
    (c__law_signs_ : PySem.W.codeIn K cd__law_signs "_law_signs" = true)
    (k__law_signs : PySem.W.keepIn K (.ref f__law_signs) = true)
    (a__law_rows : PySem.W.nsIn K mainGlobals "_law_rows" = some (some (.ref f__law_rows)))
    (l__law_rows : K.lookup f__law_rows = some ⟨oc__law_rows, od__law_rows, .func (PySem.W.fnOf "_law_rows" "_law_rows" (defArgs s__law_rows) (defBody s__law_rows) (defScope s__law_rows) .none kV__law_rows dc__law_rows pm__law_rows an__law_rows cd__law_rows ct__law_rows), sl__law_rows⟩)
    (c__law_rows_ : PySem.W.codeIn K cd__law_rows "_law_rows" = true)
    (k__law_rows : PySem.W.keepIn K (.ref f__law_rows) = true)
    (a_all_spots : PySem.W.nsIn K mainGlobals "all_spots" = some (some (.ref f_all_spots)))
    (l_all_spots : K.lookup f_all_spots = some ⟨oc_all_spots, od_all_spots, .func (PySem.W.fnOf "all_spots" "all_spots" (defArgs s_all_spots) (defBody s_all_spots) (defScope s_all_spots) .none kV_all_spots dc_all_spots pm_all_spots an_all_spots cd_all_spots ct_all_spots), sl_all_spots⟩)
    (c_all_spots_ : PySem.W.codeIn K cd_all_spots "all_spots" = true)
    (k_all_spots : PySem.W.keepIn K (.ref f_all_spots) = true)
    (a_all_ties : PySem.W.nsIn K mainGlobals "all_ties" = some (some (.ref f_all_ties)))
    (l_all_ties : K.lookup f_all_ties = some ⟨oc_all_ties, od_all_ties, .func (PySem.W.fnOf "all_ties" "all_ties" (defArgs s_all_ties) (defBody s_all_ties) (defScope s_all_ties) .none kV_all_ties dc_all_ties pm_all_ties an_all_ties cd_all_ties ct_all_ties), sl_all_ties⟩)
    (c_all_ties_ : PySem.W.codeIn K cd_all_ties "all_ties" = true)
    (k_all_ties : PySem.W.keepIn K (.ref f_all_ties) = true)
    (a_spots_of : PySem.W.nsIn K mainGlobals "spots_of" = some (some (.ref f_spots_of)))
    (l_spots_of : K.lookup f_spots_of = some ⟨oc_spots_of, od_spots_of, .func (PySem.W.fnOf "spots_of" "spots_of" (defArgs s_spots_of) (defBody s_spots_of) (defScope s_spots_of) .none kV_spots_of dc_spots_of pm_spots_of an_spots_of cd_spots_of ct_spots_of), sl_spots_of⟩)
    (c_spots_of_ : PySem.W.codeIn K cd_spots_of "spots_of" = true)
    (k_spots_of : PySem.W.keepIn K (.ref f_spots_of) = true)
    (a_is_sized : PySem.W.nsIn K mainGlobals "is_sized" = some (some (.ref f_is_sized)))
    (l_is_sized : K.lookup f_is_sized = some ⟨oc_is_sized, od_is_sized, .func (PySem.W.fnOf "is_sized" "is_sized" (defArgs s_is_sized) (defBody s_is_sized) (defScope s_is_sized) .none kV_is_sized dc_is_sized pm_is_sized an_is_sized cd_is_sized ct_is_sized), sl_is_sized⟩)
    (c_is_sized_ : PySem.W.codeIn K cd_is_sized "is_sized" = true)
    (k_is_sized : PySem.W.keepIn K (.ref f_is_sized) = true)
    (a_is_row : PySem.W.nsIn K mainGlobals "is_row" = some (some (.ref f_is_row)))
    (l_is_row : K.lookup f_is_row = some ⟨oc_is_row, od_is_row, .func (PySem.W.fnOf "is_row" "is_row" (defArgs s_is_row) (defBody s_is_row) (defScope s_is_row) .none kV_is_row dc_is_row pm_is_row an_is_row cd_is_row ct_is_row), sl_is_row⟩)
    (c_is_row_ : PySem.W.codeIn K cd_is_row "is_row" = true)
    (k_is_row : PySem.W.keepIn K (.ref f_is_row) = true)
    (a_Floor_init : PySem.W.findIn K (.ref c_Floor) "__init__" = some (some (.ref f_Floor_init)))
    (i_Floor_init_ : PySem.W.isFn K (.ref f_Floor_init) = true)
    (l_Floor_init : K.lookup f_Floor_init = some ⟨oc_Floor_init, od_Floor_init, .func (PySem.W.fnOf "__init__" "Floor.__init__" (defArgs s_Floor_init) (defBody s_Floor_init) (defScope s_Floor_init) .none kV_Floor_init dc_Floor_init pm_Floor_init an_Floor_init cd_Floor_init ct_Floor_init), sl_Floor_init⟩)
    (c_Floor_init_ : PySem.W.codeIn K cd_Floor_init "Floor.__init__" = true)
    (k_Floor_init : PySem.W.keepIn K (.ref f_Floor_init) = true)
    (a__law_cells : PySem.W.nsIn K mainGlobals "_law_cells" = some (some (.ref f__law_cells)))
    (l__law_cells : K.lookup f__law_cells = some ⟨oc__law_cells, od__law_cells, .func (PySem.W.fnOf "_law_cells" "_law_cells" (defArgs s__law_cells) (defBody s__law_cells) (defScope s__law_cells) .none kV__law_cells dc__law_cells pm__law_cells an__law_cells cd__law_cells ct__law_cells), sl__law_cells⟩)
    (c__law_cells_ : PySem.W.codeIn K cd__law_cells "_law_cells" = true)
    (k__law_cells : PySem.W.keepIn K (.ref f__law_cells) = true)
    (a__law_near : PySem.W.nsIn K mainGlobals "_law_near" = some (some (.ref f__law_near)))
    (l__law_near : K.lookup f__law_near = some ⟨oc__law_near, od__law_near, .func (PySem.W.fnOf "_law_near" "_law_near" (defArgs s__law_near) (defBody s__law_near) (defScope s__law_near) .none kV__law_near dc__law_near pm__law_near an__law_near cd__law_near ct__law_near), sl__law_near⟩)
    (c__law_near_ : PySem.W.codeIn K cd__law_near "_law_near" = true)
    (k__law_near : PySem.W.keepIn K (.ref f__law_near) = true)
    (a__law_of_sign : PySem.W.nsIn K mainGlobals "_law_of_sign" = some (some (.ref f__law_of_sign)))
    (l__law_of_sign : K.lookup f__law_of_sign = some ⟨oc__law_of_sign, od__law_of_sign, .func (PySem.W.fnOf "_law_of_sign" "_law_of_sign" (defArgs s__law_of_sign) (defBody s__law_of_sign) (defScope s__law_of_sign) .none kV__law_of_sign dc__law_of_sign pm__law_of_sign an__law_of_sign cd__law_of_sign ct__law_of_sign), sl__law_of_sign⟩)
    (c__law_of_sign_ : PySem.W.codeIn K cd__law_of_sign "_law_of_sign" = true)
    (k__law_of_sign : PySem.W.keepIn K (.ref f__law_of_sign) = true)
    (a__law_plan_of : PySem.W.nsIn K mainGlobals "_law_plan_of" = some (some (.ref f__law_plan_of)))
    (l__law_plan_of : K.lookup f__law_plan_of = some ⟨oc__law_plan_of, od__law_plan_of, .func (PySem.W.fnOf "_law_plan_of" "_law_plan_of" (defArgs s__law_plan_of) (defBody s__law_plan_of) (defScope s__law_plan_of) .none kV__law_plan_of dc__law_plan_of pm__law_plan_of an__law_plan_of cd__law_plan_of ct__law_plan_of), sl__law_plan_of⟩)
    (c__law_plan_of_ : PySem.W.codeIn K cd__law_plan_of "_law_plan_of" = true)
    (k__law_plan_of : PySem.W.keepIn K (.ref f__law_plan_of) = true)
    (a__law_is_integer : PySem.W.nsIn K mainGlobals "_law_is_integer" = some (some (.ref f__law_is_integer)))
    (l__law_is_integer : K.lookup f__law_is_integer = some ⟨oc__law_is_integer, od__law_is_integer, .func (PySem.W.fnOf "_law_is_integer" "_law_is_integer" (defArgs s__law_is_integer) (defBody s__law_is_integer) (defScope s__law_is_integer) .none kV__law_is_integer dc__law_is_integer pm__law_is_integer an__law_is_integer cd__law_is_integer ct__law_is_integer), sl__law_is_integer⟩)
    (c__law_is_integer_ : PySem.W.codeIn K cd__law_is_integer "_law_is_integer" = true)
    (k__law_is_integer : PySem.W.keepIn K (.ref f__law_is_integer) = true)
    (a__law_same : PySem.W.nsIn K mainGlobals "_law_same" = some (some (.ref f__law_same)))
    (l__law_same : K.lookup f__law_same = some ⟨oc__law_same, od__law_same, .func (PySem.W.fnOf "_law_same" "_law_same" (defArgs s__law_same) (defBody s__law_same) (defScope s__law_same) .none kV__law_same dc__law_same pm__law_same an__law_same cd__law_same ct__law_same), sl__law_same⟩)
    (c__law_same_ : PySem.W.codeIn K cd__law_same "_law_same" = true)
    (k__law_same : PySem.W.keepIn K (.ref f__law_same) = true)
    (a__law_odd : PySem.W.nsIn K mainGlobals "_law_odd" = some (some (.ref f__law_odd)))
    (l__law_odd : K.lookup f__law_odd = some ⟨oc__law_odd, od__law_odd, .func (PySem.W.fnOf "_law_odd" "_law_odd" (defArgs s__law_odd) (defBody s__law_odd) (defScope s__law_odd) .none kV__law_odd dc__law_odd pm__law_odd an__law_odd cd__law_odd ct__law_odd), sl__law_odd⟩)
    (c__law_odd_ : PySem.W.codeIn K cd__law_odd "_law_odd" = true)
    (k__law_odd : PySem.W.keepIn K (.ref f__law_odd) = true)
    (a__law_spoilt : PySem.W.nsIn K mainGlobals "_law_spoilt" = some (some (.ref f__law_spoilt)))
    (l__law_spoilt : K.lookup f__law_spoilt = some ⟨oc__law_spoilt, od__law_spoilt, .func (PySem.W.fnOf "_law_spoilt" "_law_spoilt" (defArgs s__law_spoilt) (defBody s__law_spoilt) (defScope s__law_spoilt) .none kV__law_spoilt dc__law_spoilt pm__law_spoilt an__law_spoilt cd__law_spoilt ct__law_spoilt), sl__law_spoilt⟩)
    (c__law_spoilt_ : PySem.W.codeIn K cd__law_spoilt "_law_spoilt" = true)
    (k__law_spoilt : PySem.W.keepIn K (.ref f__law_spoilt) = true)
    (a__law_bad_rows : PySem.W.nsIn K mainGlobals "_law_bad_rows" = some (some (.ref f__law_bad_rows)))
    (l__law_bad_rows : K.lookup f__law_bad_rows = some ⟨oc__law_bad_rows, od__law_bad_rows, .func (PySem.W.fnOf "_law_bad_rows" "_law_bad_rows" (defArgs s__law_bad_rows) (defBody s__law_bad_rows) (defScope s__law_bad_rows) .none kV__law_bad_rows dc__law_bad_rows pm__law_bad_rows an__law_bad_rows cd__law_bad_rows ct__law_bad_rows), sl__law_bad_rows⟩)
    (c__law_bad_rows_ : PySem.W.codeIn K cd__law_bad_rows "_law_bad_rows" = true)
    (k__law_bad_rows : PySem.W.keepIn K (.ref f__law_bad_rows) = true)
    (a__law_is_within : PySem.W.nsIn K mainGlobals "_law_is_within" = some (some (.ref f__law_is_within)))
    (l__law_is_within : K.lookup f__law_is_within = some ⟨oc__law_is_within, od__law_is_within, .func (PySem.W.fnOf "_law_is_within" "_law_is_within" (defArgs s__law_is_within) (defBody s__law_is_within) (defScope s__law_is_within) .none kV__law_is_within dc__law_is_within pm__law_is_within an__law_is_within cd__law_is_within ct__law_is_within), sl__law_is_within⟩)
    (c__law_is_within_ : PySem.W.codeIn K cd__law_is_within "_law_is_within" = true)
    (k__law_is_within : PySem.W.keepIn K (.ref f__law_is_within) = true)
    (a_stations : PySem.W.nsIn K mainGlobals "stations" = some (some (.ref f_stations)))
    (l_stations : K.lookup f_stations = some ⟨oc_stations, od_stations, .func (PySem.W.fnOf "stations" "stations" (defArgs s_stations) (defBody s_stations) (defScope s_stations) .none kV_stations dc_stations pm_stations an_stations cd_stations ct_stations), sl_stations⟩)
    (c_stations_ : PySem.W.codeIn K cd_stations "stations" = true)
    (k_stations : PySem.W.keepIn K (.ref f_stations) = true)
    (a__law_made : PySem.W.nsIn K mainGlobals "_law_made" = some (some (.ref f__law_made)))
    (l__law_made : K.lookup f__law_made = some ⟨oc__law_made, od__law_made, .func (PySem.W.fnOf "_law_made" "_law_made" (defArgs s__law_made) (defBody s__law_made) (defScope s__law_made) .none kV__law_made dc__law_made pm__law_made an__law_made cd__law_made ct__law_made), sl__law_made⟩)
    (c__law_made_ : PySem.W.codeIn K cd__law_made "_law_made" = true)
    (k__law_made : PySem.W.keepIn K (.ref f__law_made) = true)
    (a_Floor_eq : PySem.W.findIn K (.ref c_Floor) "__eq__" = some (some (.ref f_Floor_eq)))
    (i_Floor_eq_ : PySem.W.isFn K (.ref f_Floor_eq) = true)
    (l_Floor_eq : K.lookup f_Floor_eq = some ⟨oc_Floor_eq, od_Floor_eq, .func (PySem.W.fnOf "__eq__" "Floor.__eq__" (defArgs s_Floor_eq) (defBody s_Floor_eq) (defScope s_Floor_eq) .none kV_Floor_eq dc_Floor_eq pm_Floor_eq an_Floor_eq cd_Floor_eq ct_Floor_eq), sl_Floor_eq⟩)
    (c_Floor_eq_ : PySem.W.codeIn K cd_Floor_eq "Floor.__eq__" = true)
    (k_Floor_eq : PySem.W.keepIn K (.ref f_Floor_eq) = true)
    (a_cells : PySem.W.nsIn K mainGlobals "cells" = some (some (.ref f_cells)))
    (l_cells : K.lookup f_cells = some ⟨oc_cells, od_cells, .func (PySem.W.fnOf "cells" "cells" (defArgs s_cells) (defBody s_cells) (defScope s_cells) .none kV_cells dc_cells pm_cells an_cells cd_cells ct_cells), sl_cells⟩)
    (c_cells_ : PySem.W.codeIn K cd_cells "cells" = true)
    (k_cells : PySem.W.keepIn K (.ref f_cells) = true)
    (a_homes : PySem.W.nsIn K mainGlobals "homes" = some (some (.ref f_homes)))
    (l_homes : K.lookup f_homes = some ⟨oc_homes, od_homes, .func (PySem.W.fnOf "homes" "homes" (defArgs s_homes) (defBody s_homes) (defScope s_homes) .none kV_homes dc_homes pm_homes an_homes cd_homes ct_homes), sl_homes⟩)
    (c_homes_ : PySem.W.codeIn K cd_homes "homes" = true)
    (k_homes : PySem.W.keepIn K (.ref f_homes) = true)
    (a_is_integer : PySem.W.nsIn K mainGlobals "is_integer" = some (some (.ref f_is_integer)))
    (l_is_integer : K.lookup f_is_integer = some ⟨oc_is_integer, od_is_integer, .func (PySem.W.fnOf "is_integer" "is_integer" (defArgs s_is_integer) (defBody s_is_integer) (defScope s_is_integer) .none kV_is_integer dc_is_integer pm_is_integer an_is_integer cd_is_integer ct_is_integer), sl_is_integer⟩)
    (c_is_integer_ : PySem.W.codeIn K cd_is_integer "is_integer" = true)
    (k_is_integer : PySem.W.keepIn K (.ref f_is_integer) = true)
    (a_is_within : PySem.W.nsIn K mainGlobals "is_within" = some (some (.ref f_is_within)))
    (l_is_within : K.lookup f_is_within = some ⟨oc_is_within, od_is_within, .func (PySem.W.fnOf "is_within" "is_within" (defArgs s_is_within) (defBody s_is_within) (defScope s_is_within) .none kV_is_within dc_is_within pm_is_within an_is_within cd_is_within ct_is_within), sl_is_within⟩)
    (c_is_within_ : PySem.W.codeIn K cd_is_within "is_within" = true)
    (k_is_within : PySem.W.keepIn K (.ref f_is_within) = true)
    (a_is_below : PySem.W.nsIn K mainGlobals "is_below" = some (some (.ref f_is_below)))
    (l_is_below : K.lookup f_is_below = some ⟨oc_is_below, od_is_below, .func (PySem.W.fnOf "is_below" "is_below" (defArgs s_is_below) (defBody s_is_below) (defScope s_is_below) .none kV_is_below dc_is_below pm_is_below an_is_below cd_is_below ct_is_below), sl_is_below⟩)
    (c_is_below_ : PySem.W.codeIn K cd_is_below "is_below" = true)
    (k_is_below : PySem.W.keepIn K (.ref f_is_below) = true)
    (a_is_cell : PySem.W.nsIn K mainGlobals "is_cell" = some (some (.ref f_is_cell)))
    (l_is_cell : K.lookup f_is_cell = some ⟨oc_is_cell, od_is_cell, .func (PySem.W.fnOf "is_cell" "is_cell" (defArgs s_is_cell) (defBody s_is_cell) (defScope s_is_cell) .none kV_is_cell dc_is_cell pm_is_cell an_is_cell cd_is_cell ct_is_cell), sl_is_cell⟩)
    (c_is_cell_ : PySem.W.codeIn K cd_is_cell "is_cell" = true)
    (k_is_cell : PySem.W.keepIn K (.ref f_is_cell) = true)
    (a_neighbours : PySem.W.nsIn K mainGlobals "neighbours" = some (some (.ref f_neighbours)))
    (l_neighbours : K.lookup f_neighbours = some ⟨oc_neighbours, od_neighbours, .func (PySem.W.fnOf "neighbours" "neighbours" (defArgs s_neighbours) (defBody s_neighbours) (defScope s_neighbours) .none kV_neighbours dc_neighbours pm_neighbours an_neighbours cd_neighbours ct_neighbours), sl_neighbours⟩)
    (c_neighbours_ : PySem.W.codeIn K cd_neighbours "neighbours" = true)
    (k_neighbours : PySem.W.keepIn K (.ref f_neighbours) = true)
    (a__law_near_told : PySem.W.nsIn K mainGlobals "_law_near_told" = some (some (.ref f__law_near_told)))
    (l__law_near_told : K.lookup f__law_near_told = some ⟨oc__law_near_told, od__law_near_told, .func (PySem.W.fnOf "_law_near_told" "_law_near_told" (defArgs s__law_near_told) (defBody s__law_near_told) (defScope s__law_near_told) .none kV__law_near_told dc__law_near_told pm__law_near_told an__law_near_told cd__law_near_told ct__law_near_told), sl__law_near_told⟩)
    (c__law_near_told_ : PySem.W.codeIn K cd__law_near_told "_law_near_told" = true)
    (k__law_near_told : PySem.W.keepIn K (.ref f__law_near_told) = true)
    (a_law : PySem.W.nsIn K mainGlobals "law" = some (some (.ref f_law)))
    (l_law : K.lookup f_law = some ⟨oc_law, od_law, .func (PySem.W.fnOf "law" "law" (defArgs s_law) (defBody s_law) (defScope s_law) .none kV_law dc_law pm_law an_law cd_law ct_law), sl_law⟩)
    (c_law_ : PySem.W.codeIn K cd_law "law" = true)
    (k_law : PySem.W.keepIn K (.ref f_law) = true)
    : ∃ fd : FuncData, (∀ (s : Shared) (u : Value), BindsTo s fd ⟨[u], []⟩ [("_law_script", u)]) ∧ ∀ base : Heap, K.In base → base.Ns mainGlobals mg → FnOk P w K mg base (L2.CX P w) 7 fa fd ["_law_script"] (spOf K 1 (lawG 63)) := by
  have e := hmg.symm.trans (PySem.W.mg_of KX G a_law)
  cases e
  have D__law_hand : Dfn2 K mg "_law_hand" "_law_hand" s__law_hand ["_law_script"] := dfn_mk KX G a__law_hand l__law_hand c__law_hand_ k__law_hand fun _ _ _ _ _ _ us hl => match us, hl with | [_], _ => rfl
  have D__law_take : Dfn2 K mg "_law_take" "_law_take" s__law_take ["_law_hand_here", "_law_many"] := dfn_mk KX G a__law_take l__law_take c__law_take_ k__law_take fun _ _ _ _ _ _ us hl => match us, hl with | [_, _], _ => rfl
  have D__law_pick : Dfn2 K mg "_law_pick" "_law_pick" s__law_pick ["_law_hand_here", "_law_things"] := dfn_mk KX G a__law_pick l__law_pick c__law_pick_ k__law_pick fun _ _ _ _ _ _ us hl => match us, hl with | [_, _], _ => rfl
  have D__law_signs : Dfn2 K mg "_law_signs" "_law_signs" s__law_signs ["_law_hand_here"] := dfn_mk KX G a__law_signs l__law_signs c__law_signs_ k__law_signs fun _ _ _ _ _ _ us hl => match us, hl with | [_], _ => rfl
  have D__law_rows : Dfn2 K mg "_law_rows" "_law_rows" s__law_rows ["_law_hand_here", "_law_most"] := dfn_mk KX G a__law_rows l__law_rows c__law_rows_ k__law_rows fun _ _ _ _ _ _ us hl => match us, hl with | [_, _], _ => rfl
  have D_all_spots : Dfn2 K mg "all_spots" "all_spots" s_all_spots ["rows"] := dfn_mk KX G a_all_spots l_all_spots c_all_spots_ k_all_spots fun _ _ _ _ _ _ us hl => match us, hl with | [_], _ => rfl
  have D_all_ties : Dfn2 K mg "all_ties" "all_ties" s_all_ties ["spots"] := dfn_mk KX G a_all_ties l_all_ties c_all_ties_ k_all_ties fun _ _ _ _ _ _ us hl => match us, hl with | [_], _ => rfl
  have D_spots_of : Dfn2 K mg "spots_of" "spots_of" s_spots_of ["rows", "spots", "sign"] := dfn_mk KX G a_spots_of l_spots_of c_spots_of_ k_spots_of fun _ _ _ _ _ _ us hl => match us, hl with | [_, _, _], _ => rfl
  have D_is_sized : Dfn2 K mg "is_sized" "is_sized" s_is_sized ["thing", "least", "most"] := dfn_mk KX G a_is_sized l_is_sized c_is_sized_ k_is_sized fun _ _ _ _ _ _ us hl => match us, hl with | [_, _, _], _ => rfl
  have D_is_row : Dfn2 K mg "is_row" "is_row" s_is_row ["thing"] := dfn_mk KX G a_is_row l_is_row c_is_row_ k_is_row fun _ _ _ _ _ _ us hl => match us, hl with | [_], _ => rfl
  have D_Floor_init : DfnI K mg "Floor" c_Floor "Floor.__init__" s_Floor_init ["self", "rows"] := dfnI_mk KX G aC_Floor mC_Floor kC_Floor a_Floor_init i_Floor_init_ l_Floor_init c_Floor_init_ k_Floor_init fun _ _ _ _ _ _ us hl => match us, hl with | [_, _], _ => rfl
  have D__law_cells : Dfn2 K mg "_law_cells" "_law_cells" s__law_cells ["_law_rows_here"] := dfn_mk KX G a__law_cells l__law_cells c__law_cells_ k__law_cells fun _ _ _ _ _ _ us hl => match us, hl with | [_], _ => rfl
  have D__law_near : Dfn2 K mg "_law_near" "_law_near" s__law_near ["_law_spots", "_law_cell"] := dfn_mk KX G a__law_near l__law_near c__law_near_ k__law_near fun _ _ _ _ _ _ us hl => match us, hl with | [_, _], _ => rfl
  have D__law_of_sign : Dfn2 K mg "_law_of_sign" "_law_of_sign" s__law_of_sign ["_law_rows_here", "_law_spots", "_law_sign"] := dfn_mk KX G a__law_of_sign l__law_of_sign c__law_of_sign_ k__law_of_sign fun _ _ _ _ _ _ us hl => match us, hl with | [_, _, _], _ => rfl
  have D__law_plan_of : Dfn2 K mg "_law_plan_of" "_law_plan_of" s__law_plan_of ["_law_rows_here"] := dfn_mk KX G a__law_plan_of l__law_plan_of c__law_plan_of_ k__law_plan_of fun _ _ _ _ _ _ us hl => match us, hl with | [_], _ => rfl
  have D__law_is_integer : Dfn2 K mg "_law_is_integer" "_law_is_integer" s__law_is_integer ["_law_thing"] := dfn_mk KX G a__law_is_integer l__law_is_integer c__law_is_integer_ k__law_is_integer fun _ _ _ _ _ _ us hl => match us, hl with | [_], _ => rfl
  have D__law_same : Dfn2 K mg "_law_same" "_law_same" s__law_same ["_law_actual", "_law_due"] := dfn_mk KX G a__law_same l__law_same c__law_same_ k__law_same fun _ _ _ _ _ _ us hl => match us, hl with | [_, _], _ => rfl
  have D__law_odd : Dfn2 K mg "_law_odd" "_law_odd" s__law_odd ["_law_hand_here"] := dfn_mk KX G a__law_odd l__law_odd c__law_odd_ k__law_odd fun _ _ _ _ _ _ us hl => match us, hl with | [_], _ => rfl
  have D__law_spoilt : Dfn2 K mg "_law_spoilt" "_law_spoilt" s__law_spoilt ["_law_hand_here", "_law_rows_here"] := dfn_mk KX G a__law_spoilt l__law_spoilt c__law_spoilt_ k__law_spoilt fun _ _ _ _ _ _ us hl => match us, hl with | [_, _], _ => rfl
  have D__law_bad_rows : Dfn2 K mg "_law_bad_rows" "_law_bad_rows" s__law_bad_rows ["_law_thing"] := dfn_mk KX G a__law_bad_rows l__law_bad_rows c__law_bad_rows_ k__law_bad_rows fun _ _ _ _ _ _ us hl => match us, hl with | [_], _ => rfl
  have D__law_is_within : Dfn2 K mg "_law_is_within" "_law_is_within" s__law_is_within ["_law_thing", "_law_least", "_law_most"] := dfn_mk KX G a__law_is_within l__law_is_within c__law_is_within_ k__law_is_within fun _ _ _ _ _ _ us hl => match us, hl with | [_, _, _], _ => rfl
  have D_stations : Dfn2 K mg "stations" "stations" s_stations ["floor"] := dfn_mk KX G a_stations l_stations c_stations_ k_stations fun _ _ _ _ _ _ us hl => match us, hl with | [_], _ => rfl
  have D__law_made : Dfn2 K mg "_law_made" "_law_made" s__law_made ["_law_rows_here"] := dfn_mk KX G a__law_made l__law_made c__law_made_ k__law_made fun _ _ _ _ _ _ us hl => match us, hl with | [_], _ => rfl
  have D_Floor_eq : DfnM K c_Floor "__eq__" "Floor.__eq__" s_Floor_eq ["self", "other"] := dfnM_mk ⟨pg_Floor, hd_Floor, po_Floor, sa_Floor⟩ a_Floor_eq i_Floor_eq_ l_Floor_eq c_Floor_eq_ k_Floor_eq fun _ _ _ _ _ _ us hl => match us, hl with | [_, _], _ => rfl
  have D_cells : Dfn2 K mg "cells" "cells" s_cells ["floor"] := dfn_mk KX G a_cells l_cells c_cells_ k_cells fun _ _ _ _ _ _ us hl => match us, hl with | [_], _ => rfl
  have D_homes : Dfn2 K mg "homes" "homes" s_homes ["floor"] := dfn_mk KX G a_homes l_homes c_homes_ k_homes fun _ _ _ _ _ _ us hl => match us, hl with | [_], _ => rfl
  have D_is_integer : Dfn2 K mg "is_integer" "is_integer" s_is_integer ["thing"] := dfn_mk KX G a_is_integer l_is_integer c_is_integer_ k_is_integer fun _ _ _ _ _ _ us hl => match us, hl with | [_], _ => rfl
  have D_is_within : Dfn2 K mg "is_within" "is_within" s_is_within ["thing", "least", "most"] := dfn_mk KX G a_is_within l_is_within c_is_within_ k_is_within fun _ _ _ _ _ _ us hl => match us, hl with | [_, _, _], _ => rfl
  have D_is_below : Dfn2 K mg "is_below" "is_below" s_is_below ["thing", "many"] := dfn_mk KX G a_is_below l_is_below c_is_below_ k_is_below fun _ _ _ _ _ _ us hl => match us, hl with | [_, _], _ => rfl
  have D_is_cell : Dfn2 K mg "is_cell" "is_cell" s_is_cell ["floor", "thing"] := dfn_mk KX G a_is_cell l_is_cell c_is_cell_ k_is_cell fun _ _ _ _ _ _ us hl => match us, hl with | [_, _], _ => rfl
  have D_neighbours : Dfn2 K mg "neighbours" "neighbours" s_neighbours ["floor", "cell"] := dfn_mk KX G a_neighbours l_neighbours c_neighbours_ k_neighbours fun _ _ _ _ _ _ us hl => match us, hl with | [_, _], _ => rfl
  have D__law_near_told : Dfn2 K mg "_law_near_told" "_law_near_told" s__law_near_told ["_law_floor", "_law_cell"] := dfn_mk KX G a__law_near_told l__law_near_told c__law_near_told_ k__law_near_told fun _ _ _ _ _ _ us hl => match us, hl with | [_, _], _ => rfl
  have D_law : Dfn2 K mg "law" "law" s_law ["_law_script"] := dfn_mk KX G a_law l_law c_law_ k_law fun _ _ _ _ _ _ us hl => match us, hl with | [_], _ => rfl
  refine ⟨PySem.W.fnOf "law" "law" (defArgs s_law) (defBody s_law) (defScope s_law) .none kV_law dc_law pm_law an_law cd_law ct_law, fun s u => .of_eq rfl, fun base _ _ => ?_⟩
  have T : Txt P w K mg base c_BadFloor c_NoCell c_Floor := {
    n_list := PySem.W.mg_none_of KX G n_list,
    n_int := PySem.W.mg_none_of KX G n_int,
    n_len := PySem.W.mg_none_of KX G n_len,
    n_tuple := PySem.W.mg_none_of KX G n_tuple,
    n_range := PySem.W.mg_none_of KX G n_range,
    n_enumerate := PySem.W.mg_none_of KX G n_enumerate,
    g_WALL := gstr_mk KX G g_WALL,
    n_sorted := PySem.W.mg_none_of KX G n_sorted,
    n_isinstance := PySem.W.mg_none_of KX G n_isinstance,
    n_all := PySem.W.mg_none_of KX G n_all,
    g_FREE := gstr_mk KX G g_FREE,
    g_HOME := gstr_mk KX G g_HOME,
    g_STATION := gstr_mk KX G g_STATION,
    g_MOST_ROWS := gint_mk KX G g_MOST_ROWS,
    n_str := PySem.W.mg_none_of KX G n_str,
    fd_Floor_spots := ⟨⟨pg_Floor, hd_Floor, po_Floor, sa_Floor⟩, no_Floor_spots⟩,
    fd_Floor_stops := ⟨⟨pg_Floor, hd_Floor, po_Floor, sa_Floor⟩, no_Floor_stops⟩,
    fd_Floor_rests := ⟨⟨pg_Floor, hd_Floor, po_Floor, sa_Floor⟩, no_Floor_rests⟩,
    fd_Floor_ties := ⟨⟨pg_Floor, hd_Floor, po_Floor, sa_Floor⟩, no_Floor_ties⟩,
    fd_Floor_rows := ⟨⟨pg_Floor, hd_Floor, po_Floor, sa_Floor⟩, no_Floor_rows⟩,
    n_sum := PySem.W.mg_none_of KX G n_sum,
    g_MOST_HOMES := gint_mk KX G g_MOST_HOMES,
    x_BadFloor := exc1_mk KX G aE_BadFloor xL_BadFloor bR_BadFloor sa_BadFloor ga_BadFloor gg_BadFloor no_BadFloor iC_BadFloor tI_BadFloor lI_BadFloor cI_BadFloor kI_BadFloor kE_BadFloor bE_BadFloor tE_BadFloor hE_BadFloor ⟨rfl, rfl, rfl, by decide +kernel, rfl, by decide +kernel, by decide +kernel⟩ rfl (by first | exact Or.inl rfl | exact Or.inr (Or.inl rfl) | exact Or.inr (Or.inr rfl)) (by first | exact Or.inl rfl | exact Or.inr (Or.inl rfl) | exact Or.inr (Or.inr rfl)) (by decide) (by decide) fun _ _ _ _ _ _ us hl => match us, hl with | [_, _], _ => rfl,
    n_abs := PySem.W.mg_none_of KX G n_abs,
    n_bool := PySem.W.mg_none_of KX G n_bool,
    n_zip := PySem.W.mg_none_of KX G n_zip,
    is_Floor := ⟨tyNs_all kt_Floor_NoneType kt_Floor_bool kt_Floor_int kt_Floor_str kt_Floor_tuple kt_Floor_list kt_Floor_dict, fun p hp => by rw [List.mem_singleton] at hp; subst hp; exact ⟨⟨pg_Floor, hd_Floor, po_Floor, sa_Floor⟩, isa_Floor, isn_, ist_, ism_Floor, isk_Floor⟩⟩,
    gc_Floor := PySem.W.mg_of KX G aC_Floor,
    x_NoCell := exc0_mk KX G aE_NoCell xE_NoCell kE_NoCell bE_NoCell tE_NoCell,
    q_Floor := tyNs_all nf_Floor_NoneType nf_Floor_bool nf_Floor_int nf_Floor_str nf_Floor_tuple nf_Floor_list nf_Floor_dict,
    m_BadFloor_BadFloor := m_BadFloor_BadFloor,
    m_NoCell_BadFloor := m_NoCell_BadFloor,
    m_BadFloor_NoCell := m_BadFloor_NoCell,
    m_NoCell_NoCell := m_NoCell_NoCell }
  have C__law_hand := ok__law_hand (P := P) (w := w) (base := base) T D__law_hand 
  have C__law_take := ok__law_take (P := P) (w := w) (base := base) T D__law_take 
  have C__law_pick := ok__law_pick (P := P) (w := w) (base := base) T D__law_pick C__law_take
  have C__law_signs := ok__law_signs (P := P) (w := w) (base := base) T D__law_signs C__law_pick
  have C__law_rows := ok__law_rows (P := P) (w := w) (base := base) T D__law_rows C__law_take C__law_signs
  have C_all_spots := ok_all_spots (P := P) (w := w) (base := base) T D_all_spots 
  have C_all_ties := ok_all_ties (P := P) (w := w) (base := base) T D_all_ties 
  have C_spots_of := ok_spots_of (P := P) (w := w) (base := base) T D_spots_of 
  have C_is_sized := ok_is_sized (P := P) (w := w) (base := base) T D_is_sized 
  have C_is_row := ok_is_row (P := P) (w := w) (base := base) T D_is_row 
  have C_Floor_init := ok_Floor_init (P := P) (w := w) (base := base) T D_Floor_init C_spots_of C_all_ties C_all_spots C_is_row C_is_sized
  have C__law_cells := ok__law_cells (P := P) (w := w) (base := base) T D__law_cells 
  have C__law_near := ok__law_near (P := P) (w := w) (base := base) T D__law_near 
  have C__law_of_sign := ok__law_of_sign (P := P) (w := w) (base := base) T D__law_of_sign 
  have C__law_plan_of := ok__law_plan_of (P := P) (w := w) (base := base) T D__law_plan_of C__law_of_sign C__law_near C__law_cells
  have C__law_is_integer := ok__law_is_integer (P := P) (w := w) (base := base) T D__law_is_integer 
  have C__law_same := ok__law_same (P := P) (w := w) (base := base) T D__law_same C__law_is_integer 4
  have C__law_odd := ok__law_odd (P := P) (w := w) (base := base) T D__law_odd C__law_take
  have C__law_spoilt := ok__law_spoilt (P := P) (w := w) (base := base) T D__law_spoilt C__law_pick C__law_take C__law_odd
  have C__law_bad_rows := ok__law_bad_rows (P := P) (w := w) (base := base) T D__law_bad_rows 
  have C__law_is_within := ok__law_is_within (P := P) (w := w) (base := base) T D__law_is_within C__law_is_integer
  have C_stations := ok_stations (P := P) (w := w) (base := base) T D_stations 
  have C__law_made := ok__law_made (P := P) (w := w) (base := base) T D__law_made C_Floor_init
  have C_Floor_eq := ok_Floor_eq (P := P) (w := w) (base := base) T D_Floor_eq 
  have C_cells := ok_cells (P := P) (w := w) (base := base) T D_cells 
  have C_homes := ok_homes (P := P) (w := w) (base := base) T D_homes 
  have C_is_integer := ok_is_integer (P := P) (w := w) (base := base) T D_is_integer 
  have C_is_within := ok_is_within (P := P) (w := w) (base := base) T D_is_within C_is_integer
  have C_is_below := ok_is_below (P := P) (w := w) (base := base) T D_is_below C_is_within
  have C_is_cell := ok_is_cell (P := P) (w := w) (base := base) T D_is_cell C_is_below
  have C_neighbours := ok_neighbours (P := P) (w := w) (base := base) T D_neighbours C_is_cell
  have C__law_near_told := ok__law_near_told (P := P) (w := w) (base := base) T D__law_near_told C_neighbours
  exact ok_law T (fun_mk l_law c_law_ k_law) C__law_same C__law_near_told C__law_is_within C__law_pick C__law_odd C__law_take C_stations C_homes C_cells C__law_plan_of C_Floor_init C__law_spoilt C_Floor_eq C__law_made C__law_bad_rows C__law_rows C__law_hand
end Lw
open PySem PySem.W PyProof.Rows
set_option maxRecDepth 100000 in
set_option maxHeartbeats 0 in
theorem PySem.Challenge.cw_allbrought_k01_floors_judged_holds : PySem.Challenge.rw_allbrought_k01_floors_judged.Holds := by
  w_on; o_law; k_head; (case hw => w_witness2)
  k_fill
  refine Dn.walk_ofX (l := PySem.Challenge.rw_allbrought_k01_floors_judged) (n := 63) (k := 7) (x := "_law_script") rfl (by decide) rfl ⟨rfl, by decide, by decide⟩ (fun w h Y => PySem.W.kIn_of Y) ?F
  case F =>
    intro w mg fa h KX G hX hmg
    refine' Lw.all_mk KX G hmg ?n_list ?n_int ?n_len ?n_tuple ?n_range ?n_enumerate ?g_WALL ?n_sorted ?n_isinstance ?n_all ?g_FREE ?g_HOME ?g_STATION ?g_MOST_ROWS ?n_str ?n_sum ?g_MOST_HOMES ?aE_BadFloor ?xL_BadFloor ?bR_BadFloor ?sa_BadFloor ?ga_BadFloor ?gg_BadFloor ?no_BadFloor ?iC_BadFloor ?tI_BadFloor ?lI_BadFloor ?cI_BadFloor ?kI_BadFloor ?kE_BadFloor ?bE_BadFloor ?tE_BadFloor ?hE_BadFloor ?n_abs ?n_bool ?n_zip ?aE_NoCell ?xE_NoCell ?kE_NoCell ?bE_NoCell ?tE_NoCell ?aC_Floor ?mC_Floor ?kC_Floor ?pg_Floor ?hd_Floor ?po_Floor ?sa_Floor ?isn_ ?ist_ ?kt_Floor_NoneType ?kt_Floor_bool ?kt_Floor_int ?kt_Floor_str ?kt_Floor_tuple ?kt_Floor_list ?kt_Floor_dict ?isa_Floor ?ism_Floor ?isk_Floor ?nf_Floor_NoneType ?nf_Floor_bool ?nf_Floor_int ?nf_Floor_str ?nf_Floor_tuple ?nf_Floor_list ?nf_Floor_dict ?no_Floor_spots ?no_Floor_stops ?no_Floor_rests ?no_Floor_ties ?no_Floor_rows ?m_BadFloor_BadFloor ?m_NoCell_BadFloor ?m_BadFloor_NoCell ?m_NoCell_NoCell ?a__law_hand ?l__law_hand ?c__law_hand_ ?k__law_hand ?a__law_take ?l__law_take ?c__law_take_ ?k__law_take ?a__law_pick ?l__law_pick ?c__law_pick_ ?k__law_pick ?a__law_signs ?l__law_signs ?c__law_signs_ ?k__law_signs ?a__law_rows ?l__law_rows ?c__law_rows_ ?k__law_rows ?a_all_spots ?l_all_spots ?c_all_spots_ ?k_all_spots ?a_all_ties ?l_all_ties ?c_all_ties_ ?k_all_ties ?a_spots_of ?l_spots_of ?c_spots_of_ ?k_spots_of ?a_is_sized ?l_is_sized ?c_is_sized_ ?k_is_sized ?a_is_row ?l_is_row ?c_is_row_ ?k_is_row ?a_Floor_init ?i_Floor_init_ ?l_Floor_init ?c_Floor_init_ ?k_Floor_init ?a__law_cells ?l__law_cells ?c__law_cells_ ?k__law_cells ?a__law_near ?l__law_near ?c__law_near_ ?k__law_near ?a__law_of_sign ?l__law_of_sign ?c__law_of_sign_ ?k__law_of_sign ?a__law_plan_of ?l__law_plan_of ?c__law_plan_of_ ?k__law_plan_of ?a__law_is_integer ?l__law_is_integer ?c__law_is_integer_ ?k__law_is_integer ?a__law_same ?l__law_same ?c__law_same_ ?k__law_same ?a__law_odd ?l__law_odd ?c__law_odd_ ?k__law_odd ?a__law_spoilt ?l__law_spoilt ?c__law_spoilt_ ?k__law_spoilt ?a__law_bad_rows ?l__law_bad_rows ?c__law_bad_rows_ ?k__law_bad_rows ?a__law_is_within ?l__law_is_within ?c__law_is_within_ ?k__law_is_within ?a_stations ?l_stations ?c_stations_ ?k_stations ?a__law_made ?l__law_made ?c__law_made_ ?k__law_made ?a_Floor_eq ?i_Floor_eq_ ?l_Floor_eq ?c_Floor_eq_ ?k_Floor_eq ?a_cells ?l_cells ?c_cells_ ?k_cells ?a_homes ?l_homes ?c_homes_ ?k_homes ?a_is_integer ?l_is_integer ?c_is_integer_ ?k_is_integer ?a_is_within ?l_is_within ?c_is_within_ ?k_is_within ?a_is_below ?l_is_below ?c_is_below_ ?k_is_below ?a_is_cell ?l_is_cell ?c_is_cell_ ?k_is_cell ?a_neighbours ?l_neighbours ?c_neighbours_ ?k_neighbours ?a__law_near_told ?l__law_near_told ?c__law_near_told_ ?k__law_near_told ?a_law ?l_law ?c_law_ ?k_law
    (case n_list => k_is)
    (case n_int => k_is)
    (case n_len => k_is)
    (case n_tuple => k_is)
    (case n_range => k_is)
    (case n_enumerate => k_is)
    (case g_WALL => k_is)
    (case n_sorted => k_is)
    (case n_isinstance => k_is)
    (case n_all => k_is)
    (case g_FREE => k_is)
    (case g_HOME => k_is)
    (case g_STATION => k_is)
    (case g_MOST_ROWS => k_is)
    (case n_str => k_is)
    (case n_sum => k_is)
    (case g_MOST_HOMES => k_is)
    (case aE_BadFloor => k_is)
    (case xL_BadFloor => k_is)
    (case bR_BadFloor => first | rfl | decide +kernel | k_is)
    (case sa_BadFloor => k_is)
    (case ga_BadFloor => k_is)
    (case gg_BadFloor => k_is)
    (case no_BadFloor => k_is)
    (case iC_BadFloor => k_is)
    (case tI_BadFloor => k_is)
    (case lI_BadFloor => k_is)
    (case cI_BadFloor => k_is)
    (case kI_BadFloor => k_is)
    (case kE_BadFloor => k_is)
    (case bE_BadFloor => k_is)
    (case tE_BadFloor => k_is)
    (case hE_BadFloor => k_is)
    (case n_abs => k_is)
    (case n_bool => k_is)
    (case n_zip => k_is)
    (case aE_NoCell => k_is)
    (case xE_NoCell => first | k_exc | k_is)
    (case kE_NoCell => k_is)
    (case bE_NoCell => k_is)
    (case tE_NoCell => k_is)
    (case aC_Floor => k_is)
    (case mC_Floor => k_is)
    (case kC_Floor => k_is)
    (case pg_Floor => k_is)
    (case hd_Floor => k_is)
    (case po_Floor => k_is)
    (case sa_Floor => k_is)
    (case isn_ => k_is)
    (case ist_ => k_is)
    (case kt_Floor_NoneType => first | rfl | decide +kernel | k_is)
    (case kt_Floor_bool => first | rfl | decide +kernel | k_is)
    (case kt_Floor_int => first | rfl | decide +kernel | k_is)
    (case kt_Floor_str => first | rfl | decide +kernel | k_is)
    (case kt_Floor_tuple => first | rfl | decide +kernel | k_is)
    (case kt_Floor_list => first | rfl | decide +kernel | k_is)
    (case kt_Floor_dict => first | rfl | decide +kernel | k_is)
    (case isa_Floor => k_is)
    (case ism_Floor => k_is)
    (case isk_Floor => first | rfl | decide +kernel | k_is)
    (case nf_Floor_NoneType => k_is)
    (case nf_Floor_bool => k_is)
    (case nf_Floor_int => k_is)
    (case nf_Floor_str => k_is)
    (case nf_Floor_tuple => k_is)
    (case nf_Floor_list => k_is)
    (case nf_Floor_dict => k_is)
    (case no_Floor_spots => k_is)
    (case no_Floor_stops => k_is)
    (case no_Floor_rests => k_is)
    (case no_Floor_ties => k_is)
    (case no_Floor_rows => k_is)
    (case m_BadFloor_BadFloor => first | rfl | k_is)
    (case m_NoCell_BadFloor => first | rfl | k_is)
    (case m_BadFloor_NoCell => first | rfl | k_is)
    (case m_NoCell_NoCell => first | rfl | k_is)
    (case a__law_hand => k_is)
    (case l__law_hand => k_is)
    (case c__law_hand_ => k_is)
    (case k__law_hand => k_is)
    (case a__law_take => k_is)
    (case l__law_take => k_is)
    (case c__law_take_ => k_is)
    (case k__law_take => k_is)
    (case a__law_pick => k_is)
    (case l__law_pick => k_is)
    (case c__law_pick_ => k_is)
    (case k__law_pick => k_is)
    (case a__law_signs => k_is)
    (case l__law_signs => k_is)
    (case c__law_signs_ => k_is)
    (case k__law_signs => k_is)
    (case a__law_rows => k_is)
    (case l__law_rows => k_is)
    (case c__law_rows_ => k_is)
    (case k__law_rows => k_is)
    (case a_all_spots => k_is)
    (case l_all_spots => k_is)
    (case c_all_spots_ => k_is)
    (case k_all_spots => k_is)
    (case a_all_ties => k_is)
    (case l_all_ties => k_is)
    (case c_all_ties_ => k_is)
    (case k_all_ties => k_is)
    (case a_spots_of => k_is)
    (case l_spots_of => k_is)
    (case c_spots_of_ => k_is)
    (case k_spots_of => k_is)
    (case a_is_sized => k_is)
    (case l_is_sized => k_is)
    (case c_is_sized_ => k_is)
    (case k_is_sized => k_is)
    (case a_is_row => k_is)
    (case l_is_row => k_is)
    (case c_is_row_ => k_is)
    (case k_is_row => k_is)
    (case a_Floor_init => k_is)
    (case i_Floor_init_ => k_is)
    (case l_Floor_init => k_is)
    (case c_Floor_init_ => k_is)
    (case k_Floor_init => k_is)
    (case a__law_cells => k_is)
    (case l__law_cells => k_is)
    (case c__law_cells_ => k_is)
    (case k__law_cells => k_is)
    (case a__law_near => k_is)
    (case l__law_near => k_is)
    (case c__law_near_ => k_is)
    (case k__law_near => k_is)
    (case a__law_of_sign => k_is)
    (case l__law_of_sign => k_is)
    (case c__law_of_sign_ => k_is)
    (case k__law_of_sign => k_is)
    (case a__law_plan_of => k_is)
    (case l__law_plan_of => k_is)
    (case c__law_plan_of_ => k_is)
    (case k__law_plan_of => k_is)
    (case a__law_is_integer => k_is)
    (case l__law_is_integer => k_is)
    (case c__law_is_integer_ => k_is)
    (case k__law_is_integer => k_is)
    (case a__law_same => k_is)
    (case l__law_same => k_is)
    (case c__law_same_ => k_is)
    (case k__law_same => k_is)
    (case a__law_odd => k_is)
    (case l__law_odd => k_is)
    (case c__law_odd_ => k_is)
    (case k__law_odd => k_is)
    (case a__law_spoilt => k_is)
    (case l__law_spoilt => k_is)
    (case c__law_spoilt_ => k_is)
    (case k__law_spoilt => k_is)
    (case a__law_bad_rows => k_is)
    (case l__law_bad_rows => k_is)
    (case c__law_bad_rows_ => k_is)
    (case k__law_bad_rows => k_is)
    (case a__law_is_within => k_is)
    (case l__law_is_within => k_is)
    (case c__law_is_within_ => k_is)
    (case k__law_is_within => k_is)
    (case a_stations => k_is)
    (case l_stations => k_is)
    (case c_stations_ => k_is)
    (case k_stations => k_is)
    (case a__law_made => k_is)
    (case l__law_made => k_is)
    (case c__law_made_ => k_is)
    (case k__law_made => k_is)
    (case a_Floor_eq => k_is)
    (case i_Floor_eq_ => k_is)
    (case l_Floor_eq => k_is)
    (case c_Floor_eq_ => k_is)
    (case k_Floor_eq => k_is)
    (case a_cells => k_is)
    (case l_cells => k_is)
    (case c_cells_ => k_is)
    (case k_cells => k_is)
    (case a_homes => k_is)
    (case l_homes => k_is)
    (case c_homes_ => k_is)
    (case k_homes => k_is)
    (case a_is_integer => k_is)
    (case l_is_integer => k_is)
    (case c_is_integer_ => k_is)
    (case k_is_integer => k_is)
    (case a_is_within => k_is)
    (case l_is_within => k_is)
    (case c_is_within_ => k_is)
    (case k_is_within => k_is)
    (case a_is_below => k_is)
    (case l_is_below => k_is)
    (case c_is_below_ => k_is)
    (case k_is_below => k_is)
    (case a_is_cell => k_is)
    (case l_is_cell => k_is)
    (case c_is_cell_ => k_is)
    (case k_is_cell => k_is)
    (case a_neighbours => k_is)
    (case l_neighbours => k_is)
    (case c_neighbours_ => k_is)
    (case k_neighbours => k_is)
    (case a__law_near_told => k_is)
    (case l__law_near_told => k_is)
    (case c__law_near_told_ => k_is)
    (case k__law_near_told => k_is)
    (case a_law => k_is)
    (case l_law => k_is)
    (case c_law_ => k_is)
    (case k_law => k_is)
