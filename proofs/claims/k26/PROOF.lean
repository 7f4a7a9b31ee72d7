import PyProof.Rows.All
import PySem.Challenge.RW_allbrought_k26_whole_changes_of_rows
import Wide.All
import OpenK.AllK
import Wide.FinOn
import HandS.ForMost
import HandS.ForExc
import HandS.CallSlots
import HandS.ExcInit
import HandS.ExcField
import HandS.TryMany
import HandS.Small
import HandS.TupMul
import HandS.List
import HandS.Wide
import HandS.TupAny
import HandS.IsInst
import HandS.Style
import HandS.WordsExc
import HandS.Zip
set_option Elab.async false
set_option linter.all false
set_option maxRecDepth 100000
set_option maxHeartbeats 0
/-! Dn: a pure layer over HandS: what is never changed (numbers, texts, tuples, frozen lists and instances) is a plain datum, what is changed stands in a store; a statement's meaning is a predicate transformer over data and store. -/
namespace Dn
open PySem PySem.Spec PyProof.Rows L2

abbrev Frg := PySem.W.Frag
/-- data -/
inductive Dt where
  | non | bl (b : Bool) | int (i : Int) | str (x : Str) | ty (n : String)
  | tup (ws : List Dt) | lst (ws : List Dt) | kl (ws : List Dt)
  | ins (C : Addr) (ns : List Str) (ws : List Dt)
  | dK (ks : List Key) (ws : List Dt) | dT (ks : List (List Key)) (ws : List Dt)
  | exn (a dd : Addr) (ns : List Str) (ws : List Dt)
  | ref (a : Addr)
/-- what is changed -/
inductive Ob where
  | lst (ws : List Dt)
  | ins (C : Addr) (ns : List Str) (ws : List Dt)
  | dK (ks : List Key) (ws : List Dt) | dT (ks : List (List Key)) (ws : List Dt)
abbrev Store := Addr → Option Ob
abbrev Hid := Addr → Prop
abbrev Env := List (Option Dt)
def sup (S : Store) (a : Addr) (o : Ob) : Store := fun b => if b = a then some o else S b
theorem sup_same {S : Store} {a : Addr} {o : Ob} : sup S a o a = some o := by unfold sup; rw [if_pos rfl]
theorem sup_ne {S : Store} {a b : Addr} {o : Ob} (h : b ≠ a) : sup S a o b = S b := by unfold sup; rw [if_neg h]
theorem sup_sup {S : Store} {a : Addr} {o u : Ob} : sup (sup S a o) a u = sup S a u := by
  funext b; unfold sup; split <;> rfl

/-- there, and never changed -/
def Fz (P : Hid) (S : Store) (H : Hp) (a : Addr) (o : HO) : Prop := H a = some o ∧ S a = none ∧ ¬ P a
/-- of the written part -/
def KL (K : Frg) (a : Addr) (xs : List V) : Prop := SqL K (fun _ => none) a xs
def KT (K : Frg) (a : Addr) (xs : List V) : Prop := SqT K (fun _ => none) a xs
theorem KL.sq {K : Frg} {H : Hp} {a : Addr} {xs : List V} (h : KL K a xs) : SqL K H a xs := by
  rcases h with (h | ⟨o, h⟩) | h
  · cases h
  · cases h
  · exact .inr h
theorem KT.sq {K : Frg} {H : Hp} {a : Addr} {xs : List V} (h : KT K a xs) : SqT K H a xs := by
  rcases h with (h | ⟨o, h⟩) | h
  · cases h
  · cases h
  · exact .inr h

mutual
/-- the value v stands for the datum -/
def Rp (K : Frg) (P : Hid) (S : Store) (H : Hp) : Dt → V → Prop
  | .non, v => v = .non
  | .bl b, v => v = .bl b
  | .int i, v => v = .int i
  | .str x, v => v = .str x
  | .ty n, v => v = .ty n
  | .ref a, v => v = .ref a
  | .tup ws, v => ∃ a xs, v = .ref a ∧ (Fz P S H a (.tup xs) ∨ KT K a xs) ∧ RpL K P S H ws xs
  | .lst ws, v => ∃ a xs, v = .ref a ∧ Fz P S H a (.lst xs) ∧ RpL K P S H ws xs
  | .kl ws, v => ∃ a xs, v = .ref a ∧ ((∃ o, Fz P S H a (.frz o (.lst xs))) ∨ KL K a xs) ∧ RpL K P S H ws xs
  | .ins C ns ws, v => ∃ a dx xs, v = .ref a ∧ Fz P S H a (.ins C dx (ns.zip xs)) ∧ ns.length = ws.length ∧ RpL K P S H ws xs
  | .dK ks ws, v => ∃ a xs, v = .ref a ∧ Fz P S H a (.dK (ks.zip xs)) ∧ ks.length = ws.length ∧ RpL K P S H ws xs
  | .dT ks ws, v => ∃ a xs, v = .ref a ∧ Fz P S H a (.dT (ks.zip xs)) ∧ ks.length = ws.length ∧ RpL K P S H ws xs
  | .exn a dd ns ws, v => ∃ xs, v = .ref a ∧ Fz P S H dd (.xd (ns.zip xs)) ∧ ns.length = ws.length ∧ RpL K P S H ws xs
def RpL (K : Frg) (P : Hid) (S : Store) (H : Hp) : List Dt → List V → Prop
  | [], xs => xs = []
  | w :: ws, xs => ∃ v r, xs = v :: r ∧ Rp K P S H w v ∧ RpL K P S H ws r
end
section
variable {K : Frg} {P P' : Hid} {S S' S2 : Store} {H H' H2 : Hp}
mutual
theorem Rp.conv (c : ∀ a o, H a = some o → S a = none → ¬ P a → H' a = some o ∧ S' a = none ∧ ¬ P' a) : ∀ (w : Dt) (v : V), Rp K P S H w v → Rp K P' S' H' w v
  | .non, v, h => by unfold Rp at h ⊢; exact h
  | .bl b, v, h => by unfold Rp at h ⊢; exact h
  | .int i, v, h => by unfold Rp at h ⊢; exact h
  | .str x, v, h => by unfold Rp at h ⊢; exact h
  | .ty n, v, h => by unfold Rp at h ⊢; exact h
  | .ref a, v, h => by unfold Rp at h ⊢; exact h
  | .tup ws, v, h => by
    unfold Rp at h ⊢
    obtain ⟨a, xs, e, f, r⟩ := h
    exact ⟨a, xs, e, f.imp (fun f => c a _ f.1 f.2.1 f.2.2) id, RpL.conv c ws xs r⟩
  | .lst ws, v, h => by
    unfold Rp at h ⊢
    obtain ⟨a, xs, e, f, r⟩ := h
    exact ⟨a, xs, e, c a _ f.1 f.2.1 f.2.2, RpL.conv c ws xs r⟩
  | .kl ws, v, h => by
    unfold Rp at h ⊢
    obtain ⟨a, xs, e, f, r⟩ := h
    exact ⟨a, xs, e, f.imp (fun ⟨o, f⟩ => ⟨o, c a _ f.1 f.2.1 f.2.2⟩) id, RpL.conv c ws xs r⟩
  | .ins C ns ws, v, h => by
    unfold Rp at h ⊢
    obtain ⟨a, dx, xs, e, f, z, r⟩ := h
    exact ⟨a, dx, xs, e, c a _ f.1 f.2.1 f.2.2, z, RpL.conv c ws xs r⟩
  | .dK ks ws, v, h => by
    unfold Rp at h ⊢
    obtain ⟨a, xs, e, f, z, r⟩ := h
    exact ⟨a, xs, e, c a _ f.1 f.2.1 f.2.2, z, RpL.conv c ws xs r⟩
  | .dT ks ws, v, h => by
    unfold Rp at h ⊢
    obtain ⟨a, xs, e, f, z, r⟩ := h
    exact ⟨a, xs, e, c a _ f.1 f.2.1 f.2.2, z, RpL.conv c ws xs r⟩
  | .exn a dd ns ws, v, h => by
    unfold Rp at h ⊢
    obtain ⟨xs, e, f, z, r⟩ := h
    exact ⟨xs, e, c dd _ f.1 f.2.1 f.2.2, z, RpL.conv c ws xs r⟩
theorem RpL.conv (c : ∀ a o, H a = some o → S a = none → ¬ P a → H' a = some o ∧ S' a = none ∧ ¬ P' a) : ∀ (ws : List Dt) (xs : List V), RpL K P S H ws xs → RpL K P' S' H' ws xs
  | [], xs, h => by unfold RpL at h ⊢; exact h
  | w :: ws, xs, h => by
    unfold RpL at h ⊢
    obtain ⟨v, r, e, h1, h2⟩ := h
    exact ⟨v, r, e, Rp.conv c w v h1, RpL.conv c ws r h2⟩
end
/-- what is not changed stays -/
def Evo (S : Store) (H : Hp) (S' : Store) (H' : Hp) : Prop := ∀ a o, S a = none → H a = some o → H' a = some o ∧ S' a = none
theorem Evo.refl : Evo S H S H := fun _ _ n h => ⟨h, n⟩
theorem Evo.trans (a : Evo S H S' H') (b : Evo S' H' S2 H2) : Evo S H S2 H2 := fun x o n h => b x o (a x o n h).2 (a x o n h).1
theorem Rp.mono (e : Evo S H S' H') {w : Dt} {v : V} (h : Rp K P S H w v) : Rp K P S' H' w v := Rp.conv (fun a o r n p => ⟨(e a o n r).1, (e a o n r).2, p⟩) w v h
theorem RpL.mono (e : Evo S H S' H') {ws : List Dt} {xs : List V} (h : RpL K P S H ws xs) : RpL K P S' H' ws xs := RpL.conv (fun a o r n p => ⟨(e a o n r).1, (e a o n r).2, p⟩) ws xs h
theorem RpL.length : ∀ {ws : List Dt} {xs : List V}, RpL K P S H ws xs → ws.length = xs.length
  | [], xs, h => by unfold RpL at h; subst h; rfl
  | w :: ws, xs, h => by
    unfold RpL at h
    obtain ⟨v, r, e, h1, h2⟩ := h
    subst e
    rw [List.length_cons, List.length_cons, RpL.length h2]
theorem RpL.nil : RpL K P S H [] [] := by unfold RpL; rfl
theorem RpL.cons {w : Dt} {v : V} {ws : List Dt} {xs : List V} (h : Rp K P S H w v) (t : RpL K P S H ws xs) : RpL K P S H (w :: ws) (v :: xs) := by
  unfold RpL; exact ⟨v, xs, rfl, h, t⟩
theorem RpL.get : ∀ {ws : List Dt} {xs : List V} {i : Nat} {w : Dt}, RpL K P S H ws xs → ws[i]? = some w → ∃ v, xs[i]? = some v ∧ Rp K P S H w v
  | [], _, _, _, _, e => by simp at e
  | u :: ws, xs, 0, w, h, e => by
    unfold RpL at h
    obtain ⟨v, r, rfl, h1, h2⟩ := h
    simp at e
    subst e
    exact ⟨v, rfl, h1⟩
  | u :: ws, xs, i + 1, w, h, e => by
    unfold RpL at h
    obtain ⟨v, r, rfl, h1, h2⟩ := h
    obtain ⟨y, q1, q2⟩ := RpL.get (i := i) (w := w) h2 (by simpa using e)
    exact ⟨y, by simpa using q1, q2⟩
theorem RpL.append : ∀ {ws zs : List Dt} {xs ys : List V}, RpL K P S H ws xs → RpL K P S H zs ys → RpL K P S H (ws ++ zs) (xs ++ ys)
  | [], zs, xs, ys, h, t => by unfold RpL at h; subst h; exact t
  | w :: ws, zs, xs, ys, h, t => by
    unfold RpL at h
    obtain ⟨v, r, rfl, h1, h2⟩ := h
    exact RpL.cons h1 (RpL.append h2 t)
theorem RpL.take : ∀ {ws : List Dt} {xs : List V} (n : Nat), RpL K P S H ws xs → RpL K P S H (ws.take n) (xs.take n)
  | _, _, 0, _ => by simp; exact RpL.nil
  | [], xs, n + 1, h => by unfold RpL at h; subst h; simp; exact RpL.nil
  | w :: ws, xs, n + 1, h => by
    unfold RpL at h
    obtain ⟨v, r, rfl, h1, h2⟩ := h
    exact RpL.cons h1 (RpL.take n h2)
theorem RpL.drop : ∀ {ws : List Dt} {xs : List V} (n : Nat), RpL K P S H ws xs → RpL K P S H (ws.drop n) (xs.drop n)
  | _, _, 0, h => h
  | [], xs, n + 1, h => by unfold RpL at h; subst h; simp; exact RpL.nil
  | w :: ws, xs, n + 1, h => by
    unfold RpL at h
    obtain ⟨v, r, rfl, h1, h2⟩ := h
    exact RpL.drop n h2
theorem RpL.set : ∀ {ws : List Dt} {xs : List V} (n : Nat) {w : Dt} {v : V}, RpL K P S H ws xs → Rp K P S H w v → RpL K P S H (ws.set n w) (xs.set n v)
  | [], xs, n, w, v, h, q => by unfold RpL at h; subst h; simp; exact RpL.nil
  | u :: ws, xs, 0, w, v, h, q => by
    unfold RpL at h
    obtain ⟨y, r, rfl, h1, h2⟩ := h
    exact RpL.cons q h2
  | u :: ws, xs, n + 1, w, v, h, q => by
    unfold RpL at h
    obtain ⟨y, r, rfl, h1, h2⟩ := h
    exact RpL.cons h1 (RpL.set n h2 q)
/-- the world: what the store tells stands in the heap; what is hidden is there, and no one's -/
def RpOb (K : Frg) (P : Hid) (S : Store) (H : Hp) (a : Addr) : Ob → Prop
  | .lst ws => ∃ xs, H a = some (.lst xs) ∧ RpL K P S H ws xs
  | .ins C ns ws => ∃ dx xs, H a = some (.ins C dx (ns.zip xs)) ∧ ns.length = ws.length ∧ RpL K P S H ws xs
  | .dK ks ws => ∃ xs, H a = some (.dK (ks.zip xs)) ∧ ks.length = ws.length ∧ RpL K P S H ws xs
  | .dT ks ws => ∃ xs, H a = some (.dT (ks.zip xs)) ∧ ks.length = ws.length ∧ RpL K P S H ws xs
structure Wd (K : Frg) (P : Hid) (S : Store) (H : Hp) : Prop where
  sim : ∀ a o, S a = some o → RpOb K P S H a o
  hid : ∀ a, P a → S a = none ∧ ∃ o, H a = some o
theorem RpOb.there {a : Addr} {o : Ob} (h : RpOb K P S H a o) : ∃ u, H a = some u := by
  cases o with
  | lst ws => obtain ⟨xs, e, _⟩ := h; exact ⟨_, e⟩
  | ins C ns ws => obtain ⟨dx, xs, e, _⟩ := h; exact ⟨_, e⟩
  | dK ks ws => obtain ⟨xs, e, _⟩ := h; exact ⟨_, e⟩
  | dT ks ws => obtain ⟨xs, e, _⟩ := h; exact ⟨_, e⟩
theorem Wd.free (W : Wd K P S H) {a : Addr} (h : H a = none) : S a = none ∧ ¬ P a := by
  refine ⟨?_, fun p => ?_⟩
  · cases e : S a with
    | none => rfl
    | some o =>
      obtain ⟨u, q⟩ := (W.sim a o e).there
      rw [h] at q; cases q
  · obtain ⟨_, u, q⟩ := W.hid a p
    rw [h] at q; cases q
/-- a new frozen object -/
theorem Evo.new {p : Addr} {o : HO} (h : H p = none) : Evo S H S (upd H p o) := fun a u n e => ⟨by rw [upd_ne (ne_of_none e h)]; exact e, n⟩
theorem RpOb.conv {a : Addr} {o : Ob} (c : ∀ a o, H a = some o → S a = none → ¬ P a → H' a = some o ∧ S' a = none ∧ ¬ P' a) (e : ∀ u, H a = some u → H' a = some u) (h : RpOb K P S H a o) : RpOb K P' S' H' a o := by
  cases o with
  | lst ws => obtain ⟨xs, q, r⟩ := h; exact ⟨xs, e _ q, r.conv c⟩
  | ins C ns ws => obtain ⟨dx, xs, q, z, r⟩ := h; exact ⟨dx, xs, e _ q, z, r.conv c⟩
  | dK ks ws => obtain ⟨xs, q, z, r⟩ := h; exact ⟨xs, e _ q, z, r.conv c⟩
  | dT ks ws => obtain ⟨xs, q, z, r⟩ := h; exact ⟨xs, e _ q, z, r.conv c⟩
theorem Wd.new (W : Wd K P S H) {p : Addr} {o : HO} (h : H p = none) : Wd K P S (upd H p o) := by
  have k : ∀ a u, H a = some u → upd H p o a = some u := fun a u e => by rw [upd_ne (ne_of_none e h)]; exact e
  refine ⟨fun a b e => (W.sim a b e).conv (fun x u r n q => ⟨k _ _ r, n, q⟩) (k a), fun a q => ⟨(W.hid a q).1, ?_⟩⟩
  · obtain ⟨u, z⟩ := (W.hid a q).2
    exact ⟨u, k _ _ z⟩
theorem Fz.new (W : Wd K P S H) {p : Addr} {o : HO} (h : H p = none) : Fz P S (upd H p o) p o := ⟨upd_same, (W.free h).1, (W.free h).2⟩
/-- a new object of the store -/
theorem Evo.alloc {p : Addr} {o : HO} {b : Ob} (h : H p = none) : Evo S H (sup S p b) (upd H p o) := fun a u n e => by
  have z : a ≠ p := ne_of_none e h
  rw [upd_ne z, sup_ne z]
  exact ⟨e, n⟩
/-- an object of the store is changed -/
theorem Evo.set {p : Addr} {o : HO} {b u : Ob} (h : S p = some u) : Evo S H (sup S p b) (upd H p o) := fun a u n e => by
  have z : a ≠ p := fun z => by rw [z, h] at n; cases n
  rw [upd_ne z, sup_ne z]
  exact ⟨e, n⟩
theorem Wd.put (W : Wd K P S H) {p : Addr} {o : HO} {b : Ob} (hp : ¬ P p) (hs : S p = none → H p = none) (hb : RpOb K P (sup S p b) (upd H p o) p b) : Wd K P (sup S p b) (upd H p o) := by
  have c : ∀ a u, H a = some u → S a = none → ¬ P a → upd H p o a = some u ∧ sup S p b a = none ∧ ¬ P a := fun a u r n q => by
    have z : a ≠ p := fun z => by
      subst z
      rw [hs n] at r
      cases r
    rw [sup_ne z, upd_ne z]
    exact ⟨r, n, q⟩
  refine ⟨fun a u e => ?_, fun a q => ?_⟩
  · by_cases z : a = p
    · subst z
      rw [sup_same] at e
      cases e
      exact hb
    · rw [sup_ne z] at e
      exact (W.sim a u e).conv c (fun y q => by rw [upd_ne z]; exact q)
  · have z : a ≠ p := fun z => hp (z ▸ q)
    obtain ⟨h1, u, h2⟩ := W.hid a q
    exact ⟨by rw [sup_ne z]; exact h1, u, by rw [upd_ne z]; exact h2⟩
theorem Wd.nohid (W : Wd K P S H) {a : Addr} {o : Ob} (h : S a = some o) : ¬ P a := fun q => by
  rw [(W.hid a q).1] at h; cases h
/-- knowledge is given up -/
def Sub (S' S : Store) : Prop := ∀ a o, S' a = some o → S a = some o
theorem Sub.none (h : Sub S' S) {a : Addr} (n : S a = none) : S' a = none := by
  cases e : S' a with
  | none => rfl
  | some o => rw [h a o e] at n; cases n
theorem Rp.sub (h : Sub S' S) {w : Dt} {v : V} (r : Rp K P S H w v) : Rp K P S' H w v := Rp.conv (fun a o r n p => ⟨r, h.none n, p⟩) w v r
theorem RpL.sub (h : Sub S' S) {w : List Dt} {v : List V} (r : RpL K P S H w v) : RpL K P S' H w v := RpL.conv (fun a o r n p => ⟨r, h.none n, p⟩) w v r
theorem Wd.sub (W : Wd K P S H) (h : Sub S' S) : Wd K P S' H :=
  ⟨fun a o e => (W.sim a o (h a o e)).conv (fun a o r n p => ⟨r, h.none n, p⟩) (fun _ e => e), fun a q => ⟨h.none (W.hid a q).1, (W.hid a q).2⟩⟩
theorem Evo.sub {S0 : Store} {H0 : Hp} (e : Evo S0 H0 S H) (h : Sub S' S) : Evo S0 H0 S' H := fun a o n q => ⟨(e a o n q).1, h.none (e a o n q).2⟩
def sdel (S : Store) (a : Addr) : Store := fun b => if b = a then none else S b
theorem sub_sdel {a : Addr} : Sub (sdel S a) S := fun b o e => by unfold sdel at e; split at e; cases e; exact e
theorem sub_sup {a : Addr} {o : Ob} (h : S a = none) : Sub S (sup S a o) := fun b u e => by
  have z : b ≠ a := fun z => by rw [z, h] at e; cases e
  rw [sup_ne z]; exact e
theorem Sub.refl : Sub S S := fun _ _ e => e
theorem Sub.trans (a : Sub S' S) (b : Sub S S2) : Sub S' S2 := fun x o e => b x o (a x o e)
/-- weaker words for the same -/
def Wk (w : Dt) (S : Store) (w' : Dt) (S' : Store) : Prop := Sub S' S ∧ ∀ K P H v, Wd K P S H → Rp K P S H w v → Rp K P S' H w' v
theorem Wk.sub {w : Dt} (h : Sub S' S) : Wk w S w S' := ⟨h, fun K P H v W r => r.sub h⟩
theorem Wk.refl {w : Dt} : Wk w S w S := Wk.sub Sub.refl
theorem Wk.trans {w w' w2 : Dt} (a : Wk w S w' S') (b : Wk w' S' w2 S2) : Wk w S w2 S2 := ⟨b.1.trans a.1, fun K P H v W r => b.2 K P H v (W.sub a.1) (a.2 K P H v W r)⟩
/-- a list of the store that is changed no more -/
theorem Wk.freeze {a : Addr} {ws : List Dt} (h : S a = some (.lst ws)) : Wk (.ref a) S (.lst ws) (sdel S a) := ⟨sub_sdel, fun K P H v W r => by
  unfold Rp at r ⊢
  obtain ⟨xs, e, rl⟩ := W.sim a _ h
  exact ⟨a, xs, r, ⟨e, by unfold sdel; rw [if_pos rfl], W.nohid h⟩, rl.sub sub_sdel⟩⟩
theorem Wk.freezeI {a C : Addr} {ns : List Str} {ws : List Dt} (h : S a = some (.ins C ns ws)) : Wk (.ref a) S (.ins C ns ws) (sdel S a) := ⟨sub_sdel, fun K P H v W r => by
  unfold Rp at r ⊢
  obtain ⟨dx, xs, e, z, rl⟩ := W.sim a _ h
  exact ⟨a, dx, xs, r, ⟨e, by unfold sdel; rw [if_pos rfl], W.nohid h⟩, z, rl.sub sub_sdel⟩⟩
end
@[irreducible] def clo (Q : Dt → Store → Prop) (w : Dt) (S : Store) : Prop := ∃ w' S', Wk w S w' S' ∧ Q w' S'
theorem clo.of {Q : Dt → Store → Prop} {w : Dt} {S : Store} (h : Q w S) : clo Q w S := by unfold clo; exact ⟨w, S, Wk.refl, h⟩
theorem clo.wk {Q : Dt → Store → Prop} {w w' : Dt} {S S' : Store} (h : Q w' S') (s : Wk w S w' S') : clo Q w S := by unfold clo; exact ⟨w', S', s, h⟩
theorem clo.sub {Q : Dt → Store → Prop} {w : Dt} {S S' : Store} (h : Q w S') (s : Sub S' S) : clo Q w S := by unfold clo; exact ⟨w, S', Wk.sub s, h⟩

/-- an exception: its class, its fields (where it has its own dict) -/
structure Exn where
  cls : Value
  fs : Option (List Str × List Dt)
def RpX (K : Frg) (P : Hid) (S : Store) (H : Hp) (x : Exn) (cls : Value) (d : Option Addr) : Prop :=
  cls = x.cls ∧ match x.fs with
    | none => d = none
    | some (ns, ws) => ∃ dd xs, d = some dd ∧ Fz P S H dd (.xd (ns.zip xs)) ∧ ns.length = ws.length ∧ RpL K P S H ws xs
@[irreducible] def clX (Q : Exn → Store → Prop) (x : Exn) (S : Store) : Prop := ∃ S', Sub S' S ∧ Q x S'
theorem clX.of {Q : Exn → Store → Prop} {w : Exn} {S : Store} (h : Q w S) : clX Q w S := by unfold clX; exact ⟨S, Sub.refl, h⟩
theorem clX.sub {Q : Exn → Store → Prop} {w : Exn} {S S' : Store} (h : Q w S') (s : Sub S' S) : clX Q w S := by unfold clX; exact ⟨S', s, h⟩
section
variable {K : Frg} {P : Hid} {S S' : Store} {H H' : Hp} {x : Exn} {cls : Value} {d : Option Addr}
theorem RpX.conv {P' : Hid} (c : ∀ a o, H a = some o → S a = none → ¬ P a → H' a = some o ∧ S' a = none ∧ ¬ P' a) (h : RpX K P S H x cls d) : RpX K P' S' H' x cls d := by
  obtain ⟨c1, fs⟩ := x
  cases fs with
  | none => exact h
  | some p =>
    obtain ⟨ns, ws⟩ := p
    obtain ⟨e, dd, xs, e2, f, z, r⟩ := h
    exact ⟨e, dd, xs, e2, c dd _ f.1 f.2.1 f.2.2, z, r.conv c⟩
theorem RpX.mono (e : Evo S H S' H') (h : RpX K P S H x cls d) : RpX K P S' H' x cls d := h.conv fun a o r n p => ⟨(e a o n r).1, (e a o n r).2, p⟩
theorem RpX.sub (e : Sub S' S) (h : RpX K P S H x cls d) : RpX K P S' H x cls d := h.conv fun a o r n p => ⟨r, e.none n, p⟩
end
/-- slots -/
def RpS (K : Frg) (P : Hid) (S : Store) (H : Hp) (σ : Env) (σv : L2.St) : Prop := σv.length = σ.length ∧ ∀ (i : Nat) (w : Dt), σ[i]? = some (some w) → ∃ v, σv[i]? = some (some v) ∧ Rp K P S H w v
section
variable {K : Frg} {P : Hid} {S S' S2 : Store} {H H' H2 : Hp} {σ σ' : Env} {σv : L2.St}
theorem RpS.mono (e : Evo S H S' H') (h : RpS K P S H σ σv) : RpS K P S' H' σ σv := ⟨h.1, fun i w q => let ⟨v, a, b⟩ := h.2 i w q; ⟨v, a, b.mono e⟩⟩
theorem RpS.sub (e : Sub S' S) (h : RpS K P S H σ σv) : RpS K P S' H σ σv := ⟨h.1, fun i w q => let ⟨v, a, b⟩ := h.2 i w q; ⟨v, a, b.sub e⟩⟩
theorem RpS.set (h : RpS K P S H σ σv) {i : Nat} {w : Dt} {v : V} (r : Rp K P S H w v) : RpS K P S H (σ.set i (some w)) (σv.set i (some v)) := by
  refine ⟨by rw [List.length_set, List.length_set]; exact h.1, fun j z q => ?_⟩
  by_cases e : i = j
  · subst e
    by_cases l : i < σ.length
    · rw [List.getElem?_set_self l] at q
      cases q
      exact ⟨v, by rw [List.getElem?_set_self (by rw [h.1]; exact l)], r⟩
    · rw [List.getElem?_eq_none (by rw [List.length_set]; omega)] at q
      cases q
  · rw [List.getElem?_set_ne e] at q ⊢
    exact h.2 j z q
/-- what follows: a value, an exception -/
def NQ (K : Frg) (P : Hid) (S : Store) (H : Hp) (Q : Dt → Store → Prop) (Qv : VK) : Prop := ∀ v H' w S', Wd K P S' H' → Rp K P S' H' w v → Evo S H S' H' → Q w S' → Qv v H'
def NX (K : Frg) (P : Hid) (S : Store) (H : Hp) (Q : Exn → Store → Prop) (E : XK) : Prop := ∀ cls d H' x S', Wd K P S' H' → RpX K P S' H' x cls d → Evo S H S' H' → Q x S' → E cls d H'
def NN (K : Frg) (P : Hid) (S : Store) (H : Hp) (Q : Env → Store → Prop) (N : L2.St → Hp → Prop) : Prop := ∀ σv' H' σ' S', Wd K P S' H' → RpS K P S' H' σ' σv' → Evo S H S' H' → Q σ' S' → N σv' H'
def NXS (K : Frg) (P : Hid) (S : Store) (H : Hp) (Q : Exn → Env → Store → Prop) (E : WX) : Prop := ∀ cls d σv' H' x σ' S', Wd K P S' H' → RpX K P S' H' x cls d → RpS K P S' H' σ' σv' → Evo S H S' H' → Q x σ' S' → E cls d σv' H'
variable {Q : Dt → Store → Prop} {Qv : VK} {Ex : Exn → Store → Prop} {E : XK}
theorem NQ.after (h : NQ K P S H Q Qv) (e : Evo S H S' H') : NQ K P S' H' Q Qv := fun v H2 w S2 W r e2 q => h v H2 w S2 W r (e.trans e2) q
theorem NX.after (h : NX K P S H Ex E) (e : Evo S H S' H') : NX K P S' H' Ex E := fun c d H2 w S2 W r e2 q => h c d H2 w S2 W r (e.trans e2) q
theorem NN.after {Q : Env → Store → Prop} {N : L2.St → Hp → Prop} (h : NN K P S H Q N) (e : Evo S H S' H') : NN K P S' H' Q N := fun c d H2 S2 W r e2 q => h c d H2 S2 W r (e.trans e2) q
theorem NXS.after {Q : Exn → Env → Store → Prop} {N : WX} (h : NXS K P S H Q N) (e : Evo S H S' H') : NXS K P S' H' Q N := fun c d v H2 x s S2 W r r2 e2 q => h c d v H2 x s S2 W r r2 (e.trans e2) q
theorem NQ.now (h : NQ K P S H Q Qv) (W : Wd K P S H) {w : Dt} {v : V} (r : Rp K P S H w v) (q : Q w S) : Qv v H := h v H w S W r Evo.refl q
theorem NQ.clo (h : NQ K P S H Q Qv) : NQ K P S H (Dn.clo Q) Qv := fun v H2 w S2 W r e2 q => by
  unfold Dn.clo at q
  obtain ⟨w', S3, k, q⟩ := q
  exact h v H2 w' S3 (W.sub k.1) (k.2 K P H2 v W r) (e2.sub k.1) q
theorem NX.clo (h : NX K P S H Ex E) : NX K P S H (Dn.clX Ex) E := fun c d H2 w S2 W r e2 q => by
  unfold Dn.clX at q
  obtain ⟨S3, k, q⟩ := q
  exact h c d H2 w S3 (W.sub k) (r.sub k) (e2.sub k) q
end

/-! ### judgements -/
abbrev ME := Env → Store → (Dt → Store → Prop) → (Exn → Store → Prop) → Prop
abbrev MT := Env → Store → (Bool → Store → Prop) → (Exn → Store → Prop) → Prop
abbrev MA := Env → Store → (List Dt → Store → Prop) → (Exn → Store → Prop) → Prop
structure EndsW where
  nx : Env → Store → Prop
  rt : Dt → Store → Prop
  bk : Env → Store → Prop
  ct : Env → Store → Prop
  ex : Exn → Env → Store → Prop
abbrev MS := EndsW → Env → Store → Prop
def rdE (K : Frg) (E : WX) (m : ME) : TE := fun σv H Qv => ∃ P S σ Q Ex, Wd K P S H ∧ RpS K P S H σ σv ∧ m σ S Q Ex ∧ NQ K P S H Q Qv ∧ NX K P S H Ex (fun c d H' => E c d σv H')
def NB (K : Frg) (P : Hid) (S : Store) (H : Hp) (Q : Bool → Store → Prop) (Qv : Bool → Hp → Prop) : Prop := ∀ b H' S', Wd K P S' H' → Evo S H S' H' → Q b S' → Qv b H'
def NL (K : Frg) (P : Hid) (S : Store) (H : Hp) (Q : List Dt → Store → Prop) (Qv : List V → Hp → Prop) : Prop := ∀ vs H' ws S', Wd K P S' H' → RpL K P S' H' ws vs → Evo S H S' H' → Q ws S' → Qv vs H'
def rdT (K : Frg) (E : WX) (m : MT) : TT := fun σv H Qv => ∃ P S σ Q Ex, Wd K P S H ∧ RpS K P S H σ σv ∧ m σ S Q Ex ∧ NB K P S H Q Qv ∧ NX K P S H Ex (fun c d H' => E c d σv H')
def rdA (K : Frg) (E : WX) (m : MA) : TA := fun σv H Qv => ∃ P S σ Q Ex, Wd K P S H ∧ RpS K P S H σ σv ∧ m σ S Q Ex ∧ NL K P S H Q Qv ∧ NX K P S H Ex (fun c d H' => E c d σv H')
structure DOk (K : Frg) (P : Hid) (S : Store) (H : Hp) (Dw : EndsW) (D : Ends) (E : WX) : Prop where
  nx : NN K P S H Dw.nx D.nx
  rt : NQ K P S H Dw.rt D.rt
  bk : NN K P S H Dw.bk D.bk
  ct : NN K P S H Dw.ct D.ct
  ex : NXS K P S H Dw.ex E
theorem DOk.after {K : Frg} {P : Hid} {S S' : Store} {H H' : Hp} {Dw : EndsW} {D : Ends} {E : WX} (h : DOk K P S H Dw D E) (e : Evo S H S' H') : DOk K P S' H' Dw D E :=
  ⟨h.nx.after e, h.rt.after e, h.bk.after e, h.ct.after e, h.ex.after e⟩
def rdS (K : Frg) (E : WX) (m : MS) : TS := fun D σv H => ∃ P S σ Dw, Wd K P S H ∧ RpS K P S H σ σv ∧ m Dw σ S ∧ DOk K P S H Dw D E
def JE (X : Cx) (E : WX) (e : Expr) (m : ME) : Prop := PE X e (rdE X.K E m)
def JT (X : Cx) (E : WX) (e : Expr) (m : MT) : Prop := PT X e (rdT X.K E m)
def JW (X : Cx) (E : WX) (e : Expr) (m : MT) : Prop := PW X e (rdT X.K E m)
def JA (X : Cx) (E : WX) (es : List Expr) (m : MA) : Prop := PA X es (rdA X.K E m)
def JS (X : Cx) (E : WX) (s : Stmt) (m : MS) : Prop := PS X s (rdS X.K E m)
def JSs (X : Cx) (E : WX) (s : List Stmt) (m : MS) : Prop := PSs X s (rdS X.K E m)
theorem PE.weak {X : Cx} {e : Expr} {t t' : TE} (h : PE X e t) (i : ∀ σ H Q, t' σ H Q → t σ H Q) : PE X e t' := ⟨fun pins s σ H Q I q => h.run pins s σ H Q I (i σ H Q q)⟩
theorem PT.weak {X : Cx} {e : Expr} {t t' : TT} (h : PT X e t) (i : ∀ σ H Q, t' σ H Q → t σ H Q) : PT X e t' := ⟨fun pins s σ H Q I q => h.run pins s σ H Q I (i σ H Q q)⟩
theorem PW.weak {X : Cx} {e : Expr} {t t' : TT} (h : PW X e t) (i : ∀ σ H Q, t' σ H Q → t σ H Q) : PW X e t' := ⟨fun wh pins s σ H Q I q => h.run wh pins s σ H Q I (i σ H Q q)⟩
theorem PA.weak {X : Cx} {e : List Expr} {t t' : TA} (h : PA X e t) (i : ∀ σ H Q, t' σ H Q → t σ H Q) : PA X e t' := ⟨fun pos pins s σ H Q I q => h.run pos pins s σ H Q I (i σ H Q q)⟩
theorem PS.weak {X : Cx} {e : Stmt} {t t' : TS} (h : PS X e t) (i : ∀ σ H Q, t' Q σ H → t Q σ H) : PS X e t' := ⟨fun pins s σ H Q I q => h.run pins s σ H Q I (i σ H Q q)⟩
theorem PSs.weak {X : Cx} {e : List Stmt} {t t' : TS} (h : PSs X e t) (i : ∀ σ H Q, t' Q σ H → t Q σ H) : PSs X e t' := ⟨fun pins s σ H Q I q => h.run pins s σ H Q I (i σ H Q q)⟩
end Dn

namespace Dn
open PySem PySem.Spec PyProof.Rows L2
section
variable {X : Cx} {E : WX}
/-! ### names, constants -/
def mVar (i : Nat) : ME := fun σ S Q _ => match σ[i]? with | some (some w) => Q w S | _ => False
def mC (w : Dt) : ME := fun _ S Q _ => Q w S
theorem je_var {i : Nat} {x : Str} {pos : Pos} (h : PE X (.Name x pos) (tVar i)) : JE X E (.Name x pos) (mVar i) := PE.weak h fun σv H Qv q => by
  obtain ⟨P, S, σ, Q, Ex, W, r, m, nq, nx⟩ := q
  unfold mVar at m
  split at m
  · rename_i w e
    obtain ⟨v, e1, r1⟩ := r.2 i w e
    exact ⟨v, e1, nq.now W r1 m⟩
  · exact m.elim
theorem je_c {e : Expr} {v : V} {w : Dt} (h : PE X e (tC v)) (c : ∀ P S H, Rp X.K P S H w v) : JE X E e (mC w) := PE.weak h fun σv H Qv q => by
  obtain ⟨P, S, σ, Q, Ex, W, r, m, nq, nx⟩ := q
  exact nq.now W (c P S H) m
theorem je_int {i j pos} : JE X E (.Constant (.int i) j pos) (mC (.int i)) := je_c pe_int fun P S H => by unfold Rp; rfl
theorem je_bl {i j pos} : JE X E (.Constant (.bool i) j pos) (mC (.bl i)) := je_c pe_bl fun P S H => by unfold Rp; rfl
theorem je_non {j pos} : JE X E (.Constant .none j pos) (mC .non) := je_c pe_non fun P S H => by unfold Rp; rfl
theorem je_str {i j pos} : JE X E (.Constant (.str i) j pos) (mC (.str i)) := je_c pe_str fun P S H => by unfold Rp; rfl
/-- a module's number, text -/
theorem je_gint {x : Str} {i : Int} {t : Tok} {pos : Pos} (hg : Gl X x) (hm : X.mg x = some (.int i t)) (hd : (x == ("__debug__" : Str)) = false := by decide) : JE X E (.Name x pos) (mC (.int i)) :=
  je_c (pe_glob (v := .int i) hg hm ⟨t, rfl⟩ hd) fun P S H => by unfold Rp; rfl
theorem je_gstr {x i : Str} {t : Tok} {pos : Pos} (hg : Gl X x) (hm : X.mg x = some (.str i t)) (hd : (x == ("__debug__" : Str)) = false := by decide) : JE X E (.Name x pos) (mC (.str i)) :=
  je_c (pe_glob (v := .str i) hg hm ⟨t, rfl⟩ hd) fun P S H => by unfold Rp; rfl
theorem je_bty {x : Str} {T : String} {pos : Pos} (hg : Gl X x) (hm : X.mg x = none) (hv : bootBuiltins x = some (.type T)) (hn : x ≠ "__name__" := by decide) (hd : (x == ("__debug__" : Str)) = false := by decide) : JE X E (.Name x pos) (mC (.ty T)) :=
  je_c (pe_bltn (v := .ty T) hg hm hv rfl hn hd) fun P S H => by unfold Rp; rfl
/-! ### operators -/
abbrev Op2 := Dt → Dt → Store → (Dt → Store → Prop) → Prop
abbrev Op1 := Dt → Store → (Dt → Store → Prop) → Prop
abbrev OpN := List Dt → Store → (Dt → Store → Prop) → Prop
def rd2 (K : Frg) (g : Op2) : R2 := fun x y H Qv => ∃ P S w z Q, Wd K P S H ∧ Rp K P S H w x ∧ Rp K P S H z y ∧ g w z S Q ∧ NQ K P S H Q Qv
def rd1 (K : Frg) (g : Op1) : V → Hp → VK → Prop := fun x H Qv => ∃ P S w Q, Wd K P S H ∧ Rp K P S H w x ∧ g w S Q ∧ NQ K P S H Q Qv
def rdN (K : Frg) (g : OpN) : List V → Hp → VK → Prop := fun xs H Qv => ∃ P S ws Q, Wd K P S H ∧ RpL K P S H ws xs ∧ g ws S Q ∧ NQ K P S H Q Qv
def rdM (K : Frg) (g : Dt → OpN) : V → List V → Hp → VK → Prop := fun x xs H Qv => ∃ P S w ws Q, Wd K P S H ∧ Rp K P S H w x ∧ RpL K P S H ws xs ∧ g w ws S Q ∧ NQ K P S H Q Qv
def mOp (g : Op2) (ma mb : ME) : ME := fun σ S Q Ex => ma σ S (fun x S1 => mb σ S1 (fun y S2 => g x y S2 Q) Ex) Ex
def mUn (g : Op1) (ma : ME) : ME := fun σ S Q Ex => ma σ S (fun x S1 => g x S1 Q) Ex
def mFn (g : OpN) (ma : MA) : ME := fun σ S Q Ex => ma σ S (fun xs S1 => g xs S1 Q) Ex
def mMt (g : Dt → OpN) (mo : ME) (ma : MA) : ME := fun σ S Q Ex => mo σ S (fun x S1 => ma σ S1 (fun xs S2 => g x xs S2 Q) Ex) Ex
variable {a b c : Expr} {ma mb mc : ME} {pos : Pos}
theorem op_weak {g : Op2} {K : Frg} {σv : L2.St} {H : Hp} {Qv : VK} (h : rdE K E (mOp g ma mb) σv H Qv) : tOp (rd2 K g) (rdE K E ma) (rdE K E mb) σv H Qv := by
  obtain ⟨P, S, σ, Q, Ex, W, r, m, nq, nx⟩ := h
  refine ⟨P, S, σ, _, Ex, W, r, m, fun v H1 w S1 W1 r1 e1 m1 => ?_, nx⟩
  refine ⟨P, S1, σ, _, Ex, W1, r.mono e1, m1, fun v2 H2 w2 S2 W2 r2 e2 m2 => ?_, nx.after e1⟩
  exact ⟨P, S2, w, w2, Q, W2, r1.mono e2, r2, m2, nq.after (e1.trans e2)⟩
theorem je_op {op : Operator} {g : Op2} (ho : OpR X (binaryOp op) (rd2 X.K g)) (ha : JE X E a ma) (hb : JE X E b mb) : JE X E (.BinOp a op b pos) (mOp g ma mb) := PE.weak (pe_op ho ha hb) fun _ _ _ => op_weak
theorem je_cmp {op : CmpOp} {g : Op2} (ho : OpR X (compareOp op) (rd2 X.K g)) (ha : JE X E a ma) (hb : JE X E b mb) (hm : behindInMarks op b = false) : JE X E (.Compare a [op] [b] pos) (mOp g ma mb) := PE.weak (pe_cmpR ho ha hb hm) fun _ _ _ => op_weak
theorem je_un {op : UnaryOp} {g : Op1} (ho : UnR X (unaryOp op) (rd1 X.K g)) (ha : JE X E a ma) : JE X E (.UnaryOp op a pos) (mUn g ma) := PE.weak (pe_un ho ha) fun σv H Qv q => by
  obtain ⟨P, S, σ, Q, Ex, W, r, m, nq, nx⟩ := q
  exact ⟨P, S, σ, _, Ex, W, r, m, fun v H1 w S1 W1 r1 e1 m1 => ⟨P, S1, w, Q, W1, r1, m1, nq.after e1⟩, nx⟩
def mChain (g g' : Op2) (ma mb mc : ME) : ME := fun σ S Q Ex => ma σ S (fun x S1 => mb σ S1 (fun y S2 => g x y S2 fun z S3 => match z with
  | .bl true => mc σ S3 (fun u S4 => g' y u S4 Q) Ex
  | .bl false => Q (.bl false) S3
  | _ => False) Ex) Ex
/-! ### arguments, displays -/
def mNil : MA := fun _ S Q _ => Q [] S
def mCons (ma : ME) (mr : MA) : MA := fun σ S Q Ex => ma σ S (fun x S1 => mr σ S1 (fun xs S2 => Q (x :: xs) S2) Ex) Ex
theorem ja_nil : JA X E [] mNil := PA.weak pa_nil fun σv H Qv q => by
  obtain ⟨P, S, σ, Q, Ex, W, r, m, nq, nx⟩ := q
  exact nq [] H [] S W RpL.nil Evo.refl m
theorem ja_cons {e : Expr} {es : List Expr} {mr : MA} (ha : JE X E e ma) (hr : JA X E es mr) (hs : starEach (e :: es) X.env = (false, eval e X.env) :: starEach es X.env := by rfl) : JA X E (e :: es) (mCons ma mr) := PA.weak (pa_cons ha hr hs) fun σv H Qv q => by
  obtain ⟨P, S, σ, Q, Ex, W, r, m, nq, nx⟩ := q
  refine ⟨P, S, σ, _, Ex, W, r, m, fun v H1 w S1 W1 r1 e1 m1 => ?_, nx⟩
  refine ⟨P, S1, σ, _, Ex, W1, r.mono e1, m1, fun v2 H2 w2 S2 W2 r2 e2 m2 => ?_, nx.after e1⟩
  exact nq (v :: v2) H2 (w :: w2) S2 W2 (RpL.cons (r1.mono e2) r2) (e1.trans e2) m2
def mTup (ma : MA) : ME := fun σ S Q Ex => ma σ S (fun xs S1 => xs.length ≤ sizeLine ∧ Q (.tup xs) S1) Ex
theorem je_tup {es : List Expr} {x1} {mr : MA} (h : JA X E es mr) : JE X E (.Tuple es x1 pos) (mTup mr) := PE.weak (pe_tup h) fun σv H Qv q => by
  obtain ⟨P, S, σ, Q, Ex, W, r, m, nq, nx⟩ := q
  refine ⟨P, S, σ, _, Ex, W, r, m, fun vs H1 ws S1 W1 r1 e1 m1 => ?_, nx⟩
  refine ⟨by rw [← r1.length]; exact m1.1, fun p hp => ?_⟩
  refine nq (.ref p) _ (.tup ws) S1 (W1.new hp) ?_ (e1.trans (Evo.new hp)) m1.2
  unfold Rp
  exact ⟨p, vs, rfl, .inl (Fz.new W1 hp), r1.mono (Evo.new hp)⟩
/-- a new list: as a datum, as an object of the store -/
abbrev ML := Env → Store → (List Dt → Store → Prop) → (Exn → Store → Prop) → Prop
def rdL (K : Frg) (E : WX) (m : ML) : TE := fun σv H Qv => ∃ P S σ Q Ex, Wd K P S H ∧ RpS K P S H σ σv ∧ m σ S Q Ex ∧
  (∀ p H' H1 xs ws S', Wd K P S' H' → H' p = none → H1 = upd H' p (.lst xs) → RpL K P S' H' ws xs → Evo S H S' H' → Q ws S' → Qv (.ref p) H1) ∧ NX K P S H Ex (fun c d H' => E c d σv H')
def JL (X : Cx) (E : WX) (e : Expr) (m : ML) : Prop := PE X e (rdL X.K E m)
def mFrz (m : ML) : ME := fun σ S Q Ex => m σ S (fun ws S1 => Q (.lst ws) S1) Ex
def mRef (m : ML) : ME := fun σ S Q Ex => m σ S (fun ws S1 => ∀ p, S1 p = none → Q (.ref p) (sup S1 p (.lst ws))) Ex
theorem je_frz {e : Expr} {m : ML} (h : JL X E e m) : JE X E e (mFrz m) := PE.weak h fun σv H Qv q => by
  obtain ⟨P, S, σ, Q, Ex, W, r, m, nq, nx⟩ := q
  refine ⟨P, S, σ, _, Ex, W, r, m, fun p H' H1 xs ws S' W' hp e1 rl ev q => ?_, nx⟩
  subst e1
  refine nq (.ref p) _ (.lst ws) S' (W'.new hp) ?_ (ev.trans (Evo.new hp)) q
  unfold Rp
  exact ⟨p, xs, rfl, Fz.new W' hp, rl.mono (Evo.new hp)⟩
theorem je_ref {e : Expr} {m : ML} (h : JL X E e m) : JE X E e (mRef m) := PE.weak h fun σv H Qv q => by
  obtain ⟨P, S, σ, Q, Ex, W, r, m, nq, nx⟩ := q
  refine ⟨P, S, σ, _, Ex, W, r, m, fun p H' H1 xs ws S' W' hp e1 rl ev q => ?_, nx⟩
  subst e1
  have fr := W'.free hp
  refine nq (.ref p) _ (.ref p) (sup S' p (.lst ws)) (W'.put fr.2 (fun _ => hp) ⟨xs, upd_same, rl.mono (Evo.alloc hp)⟩) (by unfold Rp; rfl) (ev.trans (Evo.alloc hp)) (q p fr.1)
def mLst (ma : MA) : ML := fun σ S Q Ex => ma σ S (fun xs S1 => xs.length ≤ sizeLine ∧ Q xs S1) Ex
theorem jl_lst {es : List Expr} {mr : MA} (h : JA X E es mr) : JL X E (.List es pos) (mLst mr) := PE.weak (pe_lst h) fun σv H Qv q => by
  obtain ⟨P, S, σ, Q, Ex, W, r, m, nq, nx⟩ := q
  refine ⟨P, S, σ, _, Ex, W, r, m, fun vs H1 ws S1 W1 r1 e1 m1 => ?_, nx⟩
  refine ⟨by rw [← r1.length]; exact m1.1, fun p hp => ?_⟩
  exact nq p H1 _ vs ws S1 W1 hp rfl r1 e1 m1.2
/-! ### tests -/
/-- one of two ways -/
def br (b : Bool) (p q : Prop) : Prop := match b with
  | true => p
  | false => q
theorem br_true {p q : Prop} : br true p q = p := rfl
theorem br_false {p q : Prop} : br false p q = q := rfl
def truthW (S : Store) : Dt → Option Bool
  | .non => some false
  | .bl b => some b
  | .int i => some (i != 0)
  | .lst ws => some (!ws.isEmpty)
  | .kl ws => some (!ws.isEmpty)
  | .tup ws => some (!ws.isEmpty)
  | .ref a => match S a with | some (.lst ws) => some (!ws.isEmpty) | _ => none
  | _ => none
def mTr (m : ME) : MT := fun σ S Q Ex => m σ S (fun w S1 => match truthW S1 w with | some b => Q b S1 | none => False) Ex
theorem RpL.isEmpty {K : Frg} {P : Hid} {S : Store} {H : Hp} {ws : List Dt} {xs : List V} (h : RpL K P S H ws xs) : ws.isEmpty = xs.isEmpty := by
  have := h.length
  cases ws <;> cases xs <;> simp_all
theorem Fz.sqL {K : Frg} {P : Hid} {S : Store} {H : Hp} {a : Addr} {xs : List V} (h : Fz P S H a (.lst xs)) : SqL K H a xs := SqL.of h.1
theorem sqT_of {K : Frg} {P : Hid} {S : Store} {H : Hp} {a : Addr} {xs : List V} (h : Fz P S H a (.tup xs) ∨ KT K a xs) : SqT K H a xs := h.elim (fun f => SqT.of f.1) KT.sq
theorem sqK_of {K : Frg} {P : Hid} {S : Store} {H : Hp} {a : Addr} {xs : List V} (h : (∃ o, Fz P S H a (.frz o (.lst xs))) ∨ KL K a xs) : SqL K H a xs := h.elim (fun ⟨o, f⟩ => .inl (.inr ⟨o, f.1⟩)) KL.sq
theorem truth_of {K : Frg} {P : Hid} {S : Store} {H : Hp} {w : Dt} {v : V} {b : Bool} (W : Wd K P S H) (r : Rp K P S H w v) (h : truthW S w = some b) : TruV K v H b := by
  cases w with
  | non => unfold Rp at r; subst r; cases h; rfl
  | bl k => unfold Rp at r; subst r; cases h; rfl
  | int i => unfold Rp at r; subst r; cases h; rfl
  | lst ws =>
    unfold Rp at r
    obtain ⟨a, xs, rfl, f, rl⟩ := r
    cases h
    exact .inl ⟨xs, f.sqL, by rw [rl.isEmpty]⟩
  | kl ws =>
    unfold Rp at r
    obtain ⟨a, xs, rfl, f, rl⟩ := r
    cases h
    exact .inl ⟨xs, sqK_of f, by rw [rl.isEmpty]⟩
  | tup ws =>
    unfold Rp at r
    obtain ⟨a, xs, rfl, f, rl⟩ := r
    cases h
    exact .inr (.inl ⟨xs, sqT_of f, by rw [rl.isEmpty]⟩)
  | ref a =>
    unfold Rp at r
    subst r
    unfold truthW at h
    dsimp only at h
    cases e : S a with
    | none => rw [e] at h; cases h
    | some o =>
      rw [e] at h
      cases o with
      | lst ws =>
        cases h
        obtain ⟨xs, e2, rl⟩ := W.sim a _ e
        exact .inl ⟨xs, SqL.of e2, by rw [rl.isEmpty]⟩
      | ins _ _ _ => cases h
      | dK _ _ => cases h
      | dT _ _ => cases h
  | str x => cases h
  | ty n => cases h
  | ins _ _ _ => cases h
  | dK _ _ => cases h
  | dT _ _ => cases h
  | exn _ _ _ _ => cases h
theorem jt_val {e : Expr} {m : ME} (h : JE X E e m) (he : ∀ whole, isTrue e X.env whole = (do let v ← whole; standAt e.pos; holding [v] (truthy v)) := by intro _; rfl) : JT X E e (mTr m) := PT.weak (pt_truth h he) fun σv H Qv q => by
  obtain ⟨P, S, σ, Q, Ex, W, r, m, nq, nx⟩ := q
  refine ⟨P, S, σ, _, Ex, W, r, m, fun v H1 w S1 W1 r1 e1 m1 => ?_, nx⟩
  dsimp only at m1
  split at m1
  · rename_i b hb
    exact ⟨b, truth_of W1 r1 hb, nq b H1 S1 W1 e1 m1⟩
  · exact m1.elim
variable {A B : Expr} {mA mB : MT} {rest : List Expr}
def mAnd (ma mb : MT) : MT := fun σ S Q Ex => ma σ S (fun b S1 => br b (mb σ S1 Q Ex) (Q false S1)) Ex
def mOr (ma mb : MT) : MT := fun σ S Q Ex => ma σ S (fun b S1 => br b (Q true S1) (mb σ S1 Q Ex)) Ex
def mNot (ma : MT) : MT := fun σ S Q Ex => ma σ S (fun b S1 => Q (!b) S1) Ex
theorem jw_one {o : BoolOp} (h : JT X E A mA) : JW X E (.BoolOp o [A] pos) mA := by
  cases o
  · exact pw_and1 h
  · exact pw_or1 h
theorem jw_and (h1 : JT X E A mA) (h2 : JW X E (.BoolOp .And (B :: rest) pos) mB) : JW X E (.BoolOp .And (A :: B :: rest) pos) (mAnd mA mB) := PW.weak (pw_and h1 h2) fun σv H Qv q => by
  obtain ⟨P, S, σ, Q, Ex, W, r, m, nq, nx⟩ := q
  refine ⟨P, S, σ, _, Ex, W, r, m, fun b H1 S1 W1 e1 m1 => ?_, nx⟩
  cases b with
  | true => exact ⟨P, S1, σ, Q, Ex, W1, r.mono e1, m1, fun b H2 S2 W2 e2 q2 => nq b H2 S2 W2 (e1.trans e2) q2, nx.after e1⟩
  | false => exact nq false H1 S1 W1 e1 m1
theorem jw_or (h1 : JT X E A mA) (h2 : JW X E (.BoolOp .Or (B :: rest) pos) mB) : JW X E (.BoolOp .Or (A :: B :: rest) pos) (mOr mA mB) := PW.weak (pw_or h1 h2) fun σv H Qv q => by
  obtain ⟨P, S, σ, Q, Ex, W, r, m, nq, nx⟩ := q
  refine ⟨P, S, σ, _, Ex, W, r, m, fun b H1 S1 W1 e1 m1 => ?_, nx⟩
  cases b with
  | false => exact ⟨P, S1, σ, Q, Ex, W1, r.mono e1, m1, fun b H2 S2 W2 e2 q2 => nq b H2 S2 W2 (e1.trans e2) q2, nx.after e1⟩
  | true => exact nq true H1 S1 W1 e1 m1
theorem jt_w (h : JW X E A mA) : JT X E A mA := PW.pt h
theorem jt_not (h : JT X E A mA) : JT X E (.UnaryOp .Not A pos) (mNot mA) := PT.weak (pt_not h) fun σv H Qv q => by
  obtain ⟨P, S, σ, Q, Ex, W, r, m, nq, nx⟩ := q
  exact ⟨P, S, σ, _, Ex, W, r, m, fun b H1 S1 W1 e1 m1 => nq (!b) H1 S1 W1 e1 m1, nx⟩
/-! ### and, or, not, if as values (True and False) -/
def mAndV (ma mb : ME) : ME := fun σ S Q Ex => ma σ S (fun w S1 => match w with | .bl true => mb σ S1 Q Ex | .bl false => Q (.bl false) S1 | _ => False) Ex
def mOrV (ma mb : ME) : ME := fun σ S Q Ex => ma σ S (fun w S1 => match w with | .bl false => mb σ S1 Q Ex | .bl true => Q (.bl true) S1 | _ => False) Ex
def mNotV (ma : ME) : ME := fun σ S Q Ex => ma σ S (fun w S1 => match w with | .bl b => Q (.bl (!b)) S1 | _ => False) Ex
theorem je_one {o : BoolOp} (h : JE X E a ma) : JE X E (.BoolOp o [a] pos) ma := pe_one h
theorem je_and (h1 : JE X E a ma) (h2 : JE X E (.BoolOp .And (b :: rest) pos) mb) : JE X E (.BoolOp .And (a :: b :: rest) pos) (mAndV ma mb) := PE.weak (pe_and h1 h2) fun σv H Qv q => by
  obtain ⟨P, S, σ, Q, Ex, W, r, m, nq, nx⟩ := q
  refine ⟨P, S, σ, _, Ex, W, r, m, fun v H1 w S1 W1 r1 e1 m1 => ?_, nx⟩
  dsimp only at m1
  split at m1
  · unfold Rp at r1
    exact ⟨true, r1, P, S1, σ, Q, Ex, W1, r.mono e1, m1, nq.after e1, nx.after e1⟩
  · unfold Rp at r1
    refine ⟨false, r1, ?_⟩
    exact nq (.bl false) H1 (.bl false) S1 W1 (by unfold Rp; rfl) e1 m1
  · exact m1.elim
theorem je_or (h1 : JE X E a ma) (h2 : JE X E (.BoolOp .Or (b :: rest) pos) mb) : JE X E (.BoolOp .Or (a :: b :: rest) pos) (mOrV ma mb) := PE.weak (pe_or h1 h2) fun σv H Qv q => by
  obtain ⟨P, S, σ, Q, Ex, W, r, m, nq, nx⟩ := q
  refine ⟨P, S, σ, _, Ex, W, r, m, fun v H1 w S1 W1 r1 e1 m1 => ?_, nx⟩
  dsimp only at m1
  split at m1
  · unfold Rp at r1
    exact ⟨false, r1, P, S1, σ, Q, Ex, W1, r.mono e1, m1, nq.after e1, nx.after e1⟩
  · unfold Rp at r1
    refine ⟨true, r1, ?_⟩
    exact nq (.bl true) H1 (.bl true) S1 W1 (by unfold Rp; rfl) e1 m1
  · exact m1.elim
theorem je_not (h1 : JE X E a ma) : JE X E (.UnaryOp .Not a pos) (mNotV ma) := PE.weak (pe_not h1) fun σv H Qv q => by
  obtain ⟨P, S, σ, Q, Ex, W, r, m, nq, nx⟩ := q
  refine ⟨P, S, σ, _, Ex, W, r, m, fun v H1 w S1 W1 r1 e1 m1 => ?_, nx⟩
  dsimp only at m1
  split at m1
  · rename_i k
    unfold Rp at r1
    exact ⟨k, r1, nq (.bl (!k)) H1 (.bl (!k)) S1 W1 (by unfold Rp; rfl) e1 m1⟩
  · exact m1.elim
def mIf (mt : MT) (ma mb : ME) : ME := fun σ S Q Ex => mt σ S (fun b S1 => br b (ma σ S1 Q Ex) (mb σ S1 Q Ex)) Ex
theorem je_if (hc : JT X E A mA) (ha : JE X E a ma) (hb : JE X E b mb) : JE X E (.IfExp A a b pos) (mIf mA ma mb) := PE.weak (pe_ifExp hc ha hb) fun σv H Qv q => by
  obtain ⟨P, S, σ, Q, Ex, W, r, m, nq, nx⟩ := q
  refine ⟨P, S, σ, _, Ex, W, r, m, fun b H1 S1 W1 e1 m1 => ?_, nx⟩
  cases b with
  | true => exact ⟨P, S1, σ, Q, Ex, W1, r.mono e1, m1, nq.after e1, nx.after e1⟩
  | false => exact ⟨P, S1, σ, Q, Ex, W1, r.mono e1, m1, nq.after e1, nx.after e1⟩
/-! ### calls -/
theorem fn_weak {g : OpN} {K : Frg} {ma : MA} {σv : L2.St} {H : Hp} {Qv : VK} (h : rdE K E (mFn g ma) σv H Qv) : tCB (rdN K g) (rdA K E ma) σv H Qv := by
  obtain ⟨P, S, σ, Q, Ex, W, r, m, nq, nx⟩ := h
  exact ⟨P, S, σ, _, Ex, W, r, m, fun v H1 w S1 W1 r1 e1 m1 => ⟨P, S1, w, Q, W1, r1, m1, nq.after e1⟩, nx⟩
theorem je_callB {x : Str} {id : String} {e : Expr} {es : List Expr} {g : OpN} {ma : MA} {p : Pos} (hc : CallR X (.builtin id) (rdN X.K g)) (hg : Gl X x) (hm : X.mg x = none) (hv : bootBuiltins x = some (.builtin id)) (ha : JA X E (e :: es) ma) (hn : x ≠ "__name__" := by decide) (hdb : (x == ("__debug__" : Str)) = false := by decide)
    (he : starEach (e :: es) X.env = (false, eval e X.env) :: starEach es X.env := by rfl) (hpl : (backTo pos (starEach es X.env)).any (·.1) = false := by rfl) :
    JE X E (.Call (.Name x p) (e :: es) [] pos) (mFn g ma) := PE.weak (pe_callB hc hg hm hv ha hn hdb he hpl) fun _ _ _ => fn_weak
theorem je_callT {x : Str} {T : String} {e : Expr} {es : List Expr} {g : OpN} {ma : MA} {p : Pos} (hc : CallR X (.type T) (rdN X.K g)) (hg : Gl X x) (hm : X.mg x = none) (hv : bootBuiltins x = some (.type T)) (ha : JA X E (e :: es) ma) (hn : x ≠ "__name__" := by decide) (hdb : (x == ("__debug__" : Str)) = false := by decide)
    (he : starEach (e :: es) X.env = (false, eval e X.env) :: starEach es X.env := by rfl) (hpl : (backTo pos (starEach es X.env)).any (·.1) = false := by rfl) :
    JE X E (.Call (.Name x p) (e :: es) [] pos) (mFn g ma) := PE.weak (pe_callTy hc hg hm hv ha hn hdb he hpl) fun _ _ _ => fn_weak
/-- a def's promise -/
abbrev Fw := List Dt → Store → (Dt → Store → Prop) → (Exn → Store → Prop) → Prop
def spOf (K : Frg) (n : Nat) (G : Fw) : Sp := fun vs H Qv Ev => vs.length = n ∧ ∃ P S ws Q Ex, Wd K P S H ∧ RpL K P S H ws vs ∧ G ws S Q Ex ∧ NQ K P S H Q Qv ∧ NX K P S H Ex Ev
def mCall (n : Nat) (G : Fw) (ma : MA) : ME := fun σ S Q Ex => ma σ S (fun ws S1 => ws.length = n ∧ G ws S1 Q Ex) Ex
theorem je_call {k n : Nat} {f : Addr} {fd : FuncData} {ps : List Str} {G : Fw} {x : Str} {p : Pos} {e : Expr} {es : List Expr} {ma : MA} (F : FnOk X.prog X.w X.K X.mg X.base (L2.CX X.prog X.w) k f fd ps (spOf X.K n G)) (hr : Room k X.A) (tk : Takes X E) (hg : Gl X x)
    (hm : X.mg x = some (.ref f)) (hk : PySem.W.keepIn X.K (.ref f) = true) (hb : Binds X.K fd ps []) (ha : JA X E (e :: es) ma)
    (hdb : (x == ("__debug__" : Str)) = false := by decide) (he : starEach (e :: es) X.env = (false, eval e X.env) :: starEach es X.env := by rfl) (hpl : (backTo pos (starEach es X.env)).any (·.1) = false := by rfl) :
    JE X E (.Call (.Name x p) (e :: es) [] pos) (mCall n G ma) := PE.weak (pe_callS F hr hg hm hk hb (fun σ => passAt tk σ) ha hdb he hpl) fun σv H Qv q => by
  obtain ⟨P, S, σ, Q, Ex, W, r, m, nq, nx⟩ := q
  refine ⟨P, S, σ, _, Ex, W, r, m, fun v H1 w S1 W1 r1 e1 m1 => ?_, nx⟩
  exact ⟨by rw [← r1.length]; exact m1.1, P, S1, w, Q, Ex, W1, r1, m1.2, nq.after e1, nx.after e1⟩
/-! ### subscripts, slices, fields, methods -/
theorem je_ix {g : Op2} (hr : IxR X (rd2 X.K g)) (ha : JE X E a ma) (hb : JE X E b mb) (hs : PlainIx b) : JE X E (.Subscript a b pos) (mOp g ma mb) := PE.weak (pe_ix hr ha hb hs) fun _ _ _ => op_weak
end
end Dn

/-! Dn: a tuple taken once, or not at all. -/
namespace Dn
open PySem PySem.Spec PyProof.Rows L2
theorem tup_times_one (ta : Addr) (vs : Array Value) (hs : Nat) (dd : Option Addr) (sl : Array (Option Value)) (u : Tok) :
    Meets (Builtin.«tuple.__mul__» ⟨[.ref ta, .int 1 u], []⟩) (fun _ R st => st.heap.get? ta = some { cls := .type "tuple", dict := dd, data := .seq vs hs, slots := sl } ∧ R (.ok (.ret (.ref ta))) st) :=
  .of_wp fun prog w A R st hyp => by
    obtain ⟨hp, g, d, tk, os⟩ := st
    obtain ⟨at_, hyp⟩ := hyp
    have f1 := AutoSeq1.idx_int
    have c1 : (vs.isEmpty || (1 : Int) == 1) = true := by simp
    wp_walk using wpAny_loadPart' at_
    repeat (first
      | (refine wpAny_ite_false (decide_eq_false (by decide)) ?_; wp_walk using wpAny_loadPart' at_)
      | (refine wpAny_ite_true (decide_eq_true c1) ?_; wp_walk using wpAny_loadPart' at_))
    exact ⟨_, rfl, hyp⟩
theorem tup_times_none (ta : Addr) (vs : Array Value) (hs : Nat) (dd : Option Addr) (sl : Array (Option Value)) (u : Tok) (ne : vs.isEmpty = false) :
    Meets (Builtin.«tuple.__mul__» ⟨[.ref ta, .int 0 u], []⟩) (fun _ R st => st.heap.get? ta = some { cls := .type "tuple", dict := dd, data := .seq vs hs, slots := sl } ∧
      R (.ok (.ret (Value.ref st.heap.objs.size))) { st with heap := st.heap.push { cls := Value.type "tuple", data := Data.seq #[] }, toks := st.toks }) :=
  .of_wp fun prog w A R st hyp => by
    obtain ⟨hp, g, d, tk, os⟩ := st
    obtain ⟨at_, hyp⟩ := hyp
    have f1 := AutoSeq1.idx_int
    have c1 : (vs.isEmpty || (0 : Int) == 1) = false := by rw [ne]; rfl
    wp_walk using wpAny_loadPart' at_
    repeat (first
      | (refine wpAny_ite_false (decide_eq_false (by decide)) ?_; wp_walk using wpAny_loadPart' at_)
      | (refine wpAny_ite_false (decide_eq_false (by rw [c1]; exact Bool.false_ne_true)) ?_; wp_walk using wpAny_loadPart' at_)
      | (refine wpAny_ite_true (by rfl) ?_; wp_walk using wpAny_loadPart' at_)
      | (refine wpAny_ite_true (by simp) ?_; wp_walk using wpAny_loadPart' at_))
    exact ⟨_, rfl, hyp⟩
def rTimes01 (K : Frg) : R2 := fun x y H Q => ∃ l k xs, x = .ref l ∧ y = .int k ∧ SqT K H l xs ∧ xs ≠ [] ∧ ((k = 1 ∧ Q (.ref l) H) ∨ (k = 0 ∧ ∀ p, H p = none → Q (.ref p) (upd H p (.tup []))))
theorem op_times01 {X : Cx} : OpR X (binaryOp .Mult) (rTimes01 X.K) := by
  intro pins st σ H x y v u Q inv rx ry hyp
  obtain ⟨l, k, xs, rfl, rfl, hT, hne, alt⟩ := hyp
  cases rx
  obtain ⟨t, rfl⟩ := ry
  obtain ⟨its, rr, ⟨⟨cls, dd, data, sl⟩, at_, hc, n, hd⟩, hs⟩ := inv.tuple hT
  simp only at hc hd
  subst hc hd
  have ne : its.toArray.isEmpty = false := by
    cases its with
    | nil => exact absurd (List.eq_nil_of_length_eq_zero (show xs.length = 0 from rr.length)) hne
    | cons a b => rfl
  rcases alt with ⟨rfl, q⟩ | ⟨rfl, q⟩
  · exact wpAny_binaryOp_repeat_ref (T := "tuple") (U := "int") (by decide) ⟨_, at_, rfl⟩ (fun s2 => typeIs_int s2 1 t) noFill_tuple_mul F.fills_int_mul F.slot_int_rmul repeat_tuple F.slot_int_index.lookup
      (call_meets F.slot_int_rmul (typeIs_int st 1 t) F.entry_int_rmul (F.args_int_rmul_2 _ _) (int_rmul_tuple 1 t l its.toArray n dd sl)
        ⟨at_, rfl, ⟨_, at_, rfl⟩, call_meets F.slot_tuple_mul ⟨_, at_, rfl⟩ F.entry_tuple_mul (F.args_tuple_mul_2 _ _) (tup_times_one l its.toArray n dd sl t) ⟨at_, .ref l, H, inv.tok _, rfl, q⟩⟩)
  · exact wpAny_binaryOp_repeat_ref (T := "tuple") (U := "int") (by decide) ⟨_, at_, rfl⟩ (fun s2 => typeIs_int s2 0 t) noFill_tuple_mul F.fills_int_mul F.slot_int_rmul repeat_tuple F.slot_int_index.lookup
      (call_meets F.slot_int_rmul (typeIs_int st 0 t) F.entry_int_rmul (F.args_int_rmul_2 _ _) (int_rmul_tuple 0 t l its.toArray n dd sl)
        ⟨at_, rfl, ⟨_, at_, rfl⟩, call_meets F.slot_tuple_mul ⟨_, at_, rfl⟩ F.entry_tuple_mul (F.args_tuple_mul_2 _ _) (tup_times_none l its.toArray n dd sl t ne)
          ⟨at_, .ref st.heap.objs.size, _, inv.laid (t' := st.toks) (o := .tup []) (fun b ob z => Heap.get?_push_of_some _ z) (Nat.le_refl _) ⟨Nat.zero_le _, [], .nil, IsTup.new _ _⟩, rfl, q _ (inv.hok.fresh (Nat.le_refl _))⟩⟩)
theorem ext_tup (la : Addr) (vs : Array Value) (n : Nat) (ta : Addr) (us : Array Value) (n2 : Nat) (dd : Option Addr) (sl : Array (Option Value)) (c0 : ¬(!vs.isEmpty && Builtin.List.listTooLong (vs.size + us.size)) = true) (c1 : vs.size ≤ sizeLine) (c2 : vs.size + us.size ≤ sizeLine + 1) :
    Meets (Builtin.«list.extend» ⟨[.ref la, .ref ta], []⟩) (fun _ R st => st.heap.get? la = some { cls := .type "list", dict := none, data := .seq vs n, slots := #[] } ∧ st.heap.get? ta = some { cls := .type "tuple", dict := dd, data := .seq us n2, slots := sl } ∧
      R (.ok (.ret Value.none)) { st with heap := st.heap.update la (Obj.mapSeq fun x => x ++ us), toks := st.toks }) :=
  .of_wp fun prog w A R st hyp => by
    obtain ⟨hp, g, d, tk, os⟩ := st
    obtain ⟨al, at_, hyp⟩ := hyp
    have f1 := AutoSeq1.idx_int
    have f2 := AutoSeq1.sub_tuple_tuple
    have f3 := AutoSeq1.sub_list_list
    have f4 := AutoSeq1.sub_tuple_list
    have f5 := AutoSeq1.sub_list_tuple
    have z2 : (vs ++ us).size ≤ sizeLine + 1 := by rw [Array.size_append]; exact c2
    wp_walk using (wpAny_updateSeq al rfl (hz := c1) (_hz' := z2)), wpAny_loadPart' al, wpAny_loadPart' at_
    exact ⟨_, rfl, hyp⟩
def rExtT (K : Frg) : V → List V → Hp → VK → Prop := fun x vs H Q => ∃ l b xs zs, x = .ref l ∧ vs = [.ref b] ∧ H l = some (.lst xs) ∧ SqT K H b zs ∧ xs.length + zs.length ≤ sizeLine ∧ Q .non (upd H l (.lst (xs ++ zs)))
theorem mt_extT {X : Cx} : MtM X "list.extend" (rExtT X.K) := by
  intro pins st σ H x vs v us Q inv rx rv hyp
  obtain ⟨l, b, xs, zs, rfl, rfl, hH, hB, hz, q⟩ := hyp
  cases rx
  obtain ⟨u, rfl, ru⟩ := rv.one
  cases ru
  obtain ⟨z, its, n, rr, hl, e⟩ := inv.lstM hH
  obtain ⟨its2, r2, ⟨⟨cls, dd, data, sl⟩, at_, hc, n2, hd⟩, hs⟩ := inv.tuple hB
  simp only at hc hd
  subst hc hd
  have hl2 : its2.length = zs.length := r2.length.symm
  have hsz : its.toArray.size + its2.toArray.size ≤ sizeLine := by rw [List.size_toArray, List.size_toArray]; omega
  have hlong : ¬ (!its.toArray.isEmpty && Builtin.List.listTooLong (its.toArray.size + its2.toArray.size)) = true := by
    rw [notLongL hsz, Bool.and_false]
    exact Bool.false_ne_true
  refine call_meets F.slot_list_extend ⟨_, e, rfl⟩ F.entry_list_extend (F.args_list_extend_2 _ _)
    (ext_tup l its.toArray n b its2.toArray n2 dd sl hlong (by rw [List.size_toArray]; omega) (by omega)) ⟨e, at_, ?_⟩
  exact ⟨.non, _, inv.lset (its' := its ++ its2) hH e (by simp) (rr.append r2) (by rw [List.length_append]; omega), rfl, q⟩
end Dn

namespace Dn
open PySem PySem.Spec PyProof.Rows L2
section
variable {K : Frg} {P : Hid} {S : Store} {H : Hp}
theorem rp_non {v : V} : Rp K P S H .non v = (v = .non) := by unfold Rp; rfl
theorem rp_bl {b : Bool} {v : V} : Rp K P S H (.bl b) v = (v = .bl b) := by unfold Rp; rfl
theorem rp_int {i : Int} {v : V} : Rp K P S H (.int i) v = (v = .int i) := by unfold Rp; rfl
theorem rp_str {x : Str} {v : V} : Rp K P S H (.str x) v = (v = .str x) := by unfold Rp; rfl
theorem rp_ty {x : String} {v : V} : Rp K P S H (.ty x) v = (v = .ty x) := by unfold Rp; rfl
theorem rp_ref {a : Addr} {v : V} : Rp K P S H (.ref a) v = (v = .ref a) := by unfold Rp; rfl
theorem rpInt {i : Int} : Rp K P S H (.int i) (.int i) := rp_int.mpr rfl
theorem rpBl {i : Bool} : Rp K P S H (.bl i) (.bl i) := rp_bl.mpr rfl
theorem rpStr {i : Str} : Rp K P S H (.str i) (.str i) := rp_str.mpr rfl
theorem rpNon : Rp K P S H .non .non := rp_non.mpr rfl
theorem rpRef {i : Addr} : Rp K P S H (.ref i) (.ref i) := rp_ref.mpr rfl
theorem rp_tup {ws : List Dt} {v : V} (h : Rp K P S H (.tup ws) v) : ∃ a xs, v = .ref a ∧ SqT K H a xs ∧ RpL K P S H ws xs := by
  unfold Rp at h
  obtain ⟨a, xs, e, f, r⟩ := h
  exact ⟨a, xs, e, sqT_of f, r⟩
/-- new tuples, new frozen lists -/
theorem NQ.tup {Q : Dt → Store → Prop} {Qv : VK} (h : NQ K P S H Q Qv) (W : Wd K P S H) {ws : List Dt} {xs : List V} (r : RpL K P S H ws xs) (q : Q (.tup ws) S) {p : Addr} (hp : H p = none) : Qv (.ref p) (upd H p (.tup xs)) := by
  refine h _ _ (.tup ws) S (W.new hp) ?_ (Evo.new hp) q
  unfold Rp
  exact ⟨p, xs, rfl, .inl (Fz.new W hp), r.mono (Evo.new hp)⟩
theorem NQ.lst {Q : Dt → Store → Prop} {Qv : VK} (h : NQ K P S H Q Qv) (W : Wd K P S H) {ws : List Dt} {xs : List V} (r : RpL K P S H ws xs) (q : Q (.lst ws) S) {p : Addr} (hp : H p = none) : Qv (.ref p) (upd H p (.lst xs)) := by
  refine h _ _ (.lst ws) S (W.new hp) ?_ (Evo.new hp) q
  unfold Rp
  exact ⟨p, xs, rfl, Fz.new W hp, r.mono (Evo.new hp)⟩
theorem RpL.nilE {xs : List V} (h : RpL K P S H [] xs) : xs = [] := by unfold RpL at h; exact h
theorem RpL.nilW {ws : List Dt} (h : RpL K P S H ws []) : ws = [] := by
  have := h.length
  exact List.eq_nil_of_length_eq_zero this
theorem RpL.consE {w : Dt} {ws : List Dt} {xs : List V} (h : RpL K P S H (w :: ws) xs) : ∃ v r, xs = v :: r ∧ Rp K P S H w v ∧ RpL K P S H ws r := by unfold RpL at h; exact h
theorem RpL.one {w : Dt} {xs : List V} (h : RpL K P S H [w] xs) : ∃ v, xs = [v] ∧ Rp K P S H w v := by
  obtain ⟨v, r, e, h1, h2⟩ := h.consE
  rw [h2.nilE] at e
  exact ⟨v, e, h1⟩
theorem RpL.two {w z : Dt} {xs : List V} (h : RpL K P S H [w, z] xs) : ∃ v u, xs = [v, u] ∧ Rp K P S H w v ∧ Rp K P S H z u := by
  obtain ⟨v, r, e, h1, h2⟩ := h.consE
  obtain ⟨u, e2, h3⟩ := h2.one
  rw [e2] at e
  exact ⟨v, u, e, h1, h3⟩
/-- lists: that are changed or plain; or of the written part; lists and tuples -/
def plv (S : Store) : Dt → Option (List Dt)
  | .lst ws => some ws
  | .ref a => match S a with | some (.lst ws) => some ws | _ => none
  | _ => none
def lsv (S : Store) : Dt → Option (List Dt)
  | .lst ws => some ws
  | .kl ws => some ws
  | .ref a => match S a with | some (.lst ws) => some ws | _ => none
  | _ => none
theorem plv_of (W : Wd K P S H) {w : Dt} {v : V} {ws : List Dt} (r : Rp K P S H w v) (h : plv S w = some ws) : ∃ a xs, v = .ref a ∧ H a = some (.lst xs) ∧ RpL K P S H ws xs := by
  cases w with
  | lst us =>
    unfold Rp at r
    obtain ⟨a, xs, e, f, rl⟩ := r
    cases h
    exact ⟨a, xs, e, f.1, rl⟩
  | ref a =>
    rw [rp_ref] at r
    unfold plv at h
    dsimp only at h
    cases e : S a with
    | none => rw [e] at h; cases h
    | some o =>
      rw [e] at h
      cases o with
      | lst us =>
        cases h
        obtain ⟨xs, e2, rl⟩ := W.sim a _ e
        exact ⟨a, xs, r, e2, rl⟩
      | ins _ _ _ => cases h
      | dK _ _ => cases h
      | dT _ _ => cases h
  | _ => cases h
theorem lsv_of (W : Wd K P S H) {w : Dt} {v : V} {ws : List Dt} (r : Rp K P S H w v) (h : lsv S w = some ws) : ∃ a xs, v = .ref a ∧ SqL K H a xs ∧ RpL K P S H ws xs := by
  cases w with
  | kl us =>
    unfold Rp at r
    obtain ⟨a, xs, e, f, rl⟩ := r
    cases h
    exact ⟨a, xs, e, sqK_of f, rl⟩
  | lst us =>
    obtain ⟨a, xs, e, f, rl⟩ := plv_of W r (show plv S (.lst us) = some ws from h)
    exact ⟨a, xs, e, SqL.of f, rl⟩
  | ref a =>
    obtain ⟨a, xs, e, f, rl⟩ := plv_of W r (show plv S (.ref a) = some ws from h)
    exact ⟨a, xs, e, SqL.of f, rl⟩
  | _ => cases h
/-! ### arithmetic -/
def pyAdd : Op2
  | .int i, .int j, S, Q => Q (.int (i + j)) S
  | .str x, .str y, S, Q => x.length + y.length ≤ sizeLine ∧ Q (.str (x ++ y)) S
  | .tup x, .tup y, S, Q => x.length + y.length ≤ sizeLine ∧ Q (.tup (x ++ y)) S
  | x, y, S, Q => match plv S x, plv S y with
    | some a, some b => a.length + b.length ≤ sizeLine ∧ Q (.lst (a ++ b)) S
    | _, _ => False
def pySub : Op2
  | .int i, .int j, S, Q => Q (.int (i - j)) S
  | _, _, _, _ => False
def mulC (i j : Int) : Prop := (-(2 ^ 64) < i ∧ i < 2 ^ 64) ∨ (-(2 ^ 64) < j ∧ j < 2 ^ 64) ∨ i.natAbs.log2 + j.natAbs.log2 < 1000000
def pyMul : Op2
  | .int i, .int j, S, Q => mulC i j ∧ Q (.int (i * j)) S
  | .tup x, .int k, S, Q => x ≠ [] ∧ 0 ≤ k ∧ k ≤ 1000 ∧ x.length ≤ 1000 ∧ Q (.tup (List.replicate k.toNat x).flatten) S
  | x, .int k, S, Q => match plv S x with
    | some a => 0 ≤ k ∧ k < 2 ^ 63 ∧ a.length * k.toNat ≤ sizeLine ∧ Q (.lst (List.replicate k.toNat a).flatten) S
    | _ => False
  | _, _, _, _ => False
def pyMod : Op2
  | .int i, .int j, S, Q => 0 < j ∧ Q (.int (i % j)) S
  | _, _, _, _ => False
def pyFdiv : Op2
  | .int i, .int j, S, Q => (0 < j ∧ j.natAbs.log2 < 9000) ∧ Q (.int (i / j)) S
  | _, _, _, _ => False
def pyPow : Op2
  | .int i, .int j, S, Q => (0 ≤ j ∧ j ≤ 1000000 ∧ i.natAbs < 2 ^ 64) ∧ Q (.int (i ^ j.toNat)) S
  | _, _, _, _ => False
def pyNeg : Op1
  | .int i, S, Q => Q (.int (-i)) S
  | _, _, _ => False
theorem RpL.flat {ws : List Dt} {xs : List V} (r : RpL K P S H ws xs) : ∀ n : Nat, RpL K P S H (List.replicate n ws).flatten (List.replicate n xs).flatten
  | 0 => RpL.nil
  | n + 1 => by
    rw [List.replicate_succ, List.replicate_succ, List.flatten_cons, List.flatten_cons]
    exact r.append (RpL.flat r n)
end
section
variable {X : Cx} {E : WX}
theorem o_add : OpR X (binaryOp .Add) (rd2 X.K pyAdd) := by
  intro pins s σ H x y v u Qv I rx ry h
  obtain ⟨P, S, w, z, Q, W, r1, r2, g, nq⟩ := h
  unfold pyAdd at g
  split at g
  · rename_i i j
    rw [rp_int] at r1 r2
    exact op_add pins s σ H x y v u Qv I rx ry ⟨i, j, r1, r2, nq.now W rpInt g⟩
  · rename_i i j
    rw [rp_str] at r1 r2
    exact op_add_str pins s σ H x y v u Qv I rx ry ⟨i, j, r1, r2, g.1, nq.now W rpStr g.2⟩
  · rename_i i j
    obtain ⟨a, xs, rfl, h1, rl1⟩ := rp_tup r1
    obtain ⟨b, ys, rfl, h2, rl2⟩ := rp_tup r2
    refine op_catA pins s σ H _ _ v u Qv I rx ry ⟨a, b, xs, ys, rfl, rfl, h1, h2, by rw [← rl1.length, ← rl2.length]; exact g.1, fun e => ?_, fun e1 e2 => ?_, fun e1 e2 p hp => ?_⟩
    · subst e
      have e3 := rl1.nilW
      subst e3
      exact nq.now W r2 g.2
    · subst e2
      have e3 := rl2.nilW
      subst e3
      rw [List.append_nil] at g
      exact nq.now W r1 g.2
    · exact nq.tup W (rl1.append rl2) g.2 hp
  · split at g
    · rename_i a b ea eb
      obtain ⟨p, xs, rfl, h1, rl1⟩ := plv_of W r1 ea
      obtain ⟨q, ys, rfl, h2, rl2⟩ := plv_of W r2 eb
      exact op_cat pins s σ H _ _ v u Qv I rx ry ⟨p, q, xs, ys, rfl, rfl, h1, h2, by rw [← rl1.length, ← rl2.length]; exact g.1, fun p hp => nq.lst W (rl1.append rl2) g.2 hp⟩
    · exact g.elim
theorem o_sub : OpR X (binaryOp .Sub) (rd2 X.K pySub) := by
  intro pins s σ H x y v u Qv I rx ry h
  obtain ⟨P, S, w, z, Q, W, r1, r2, g, nq⟩ := h
  unfold pySub at g
  split at g
  · rename_i i j
    rw [rp_int] at r1 r2
    exact op_sub pins s σ H x y v u Qv I rx ry ⟨i, j, r1, r2, nq.now W rpInt g⟩
  · exact g.elim
theorem o_mul : OpR X (binaryOp .Mult) (rd2 X.K pyMul) := by
  intro pins s σ H x y v u Qv I rx ry h
  obtain ⟨P, S, w, z, Q, W, r1, r2, g, nq⟩ := h
  unfold pyMul at g
  split at g
  · rename_i i j
    rw [rp_int] at r1 r2
    rcases g.1 with c | c | c
    · exact op_mul pins s σ H x y v u Qv I rx ry ⟨i, j, r1, r2, .inl c, nq.now W rpInt g.2⟩
    · exact op_mul pins s σ H x y v u Qv I rx ry ⟨i, j, r1, r2, .inr c, nq.now W rpInt g.2⟩
    · exact op_mulW pins s σ H x y v u Qv I rx ry ⟨i, j, r1, r2, c, nq.now W rpInt g.2⟩
  · rename_i ws k
    obtain ⟨a, xs, rfl, h1, rl1⟩ := rp_tup r1
    rw [rp_int] at r2
    obtain ⟨g1, g2, g3, g4, g5⟩ := g
    have hne : xs ≠ [] := fun e => g1 (by subst e; exact rl1.nilW)
    by_cases k0 : k = 0
    · subst k0
      exact op_times01 pins s σ H _ _ v u Qv I rx ry ⟨a, 0, xs, rfl, r2, h1, hne, .inr ⟨rfl, fun p hp => nq.tup W RpL.nil g5 hp⟩⟩
    · by_cases k1 : k = 1
      · subst k1
        refine op_times01 pins s σ H _ _ v u Qv I rx ry ⟨a, 1, xs, rfl, r2, h1, hne, .inl ⟨rfl, ?_⟩⟩
        have e1 : (List.replicate (1 : Int).toNat ws).flatten = ws := by simp
        rw [e1] at g5
        exact nq.now W (by assumption) g5
      · exact op_repT pins s σ H _ _ v u Qv I rx ry ⟨a, k, xs, rfl, r2, h1, hne, by omega, g3, by rw [← rl1.length]; exact g4, fun p hp => nq.tup W (rl1.flat _) g5 hp⟩
  · rename_i k hne hne2
    split at g
    · rename_i a ea
      obtain ⟨p, xs, rfl, h1, rl1⟩ := plv_of W r1 ea
      rw [rp_int] at r2
      obtain ⟨g1, g2, g3, g4⟩ := g
      exact op_rep pins s σ H _ _ v u Qv I rx ry ⟨p, _, xs, rfl, r2, h1, by omega, g2, by rw [← rl1.length]; exact g3, fun p hp => nq.lst W (rl1.flat _) g4 hp⟩
    · exact g.elim
  · exact g.elim
theorem o_mod : OpR X (binaryOp .Mod) (rd2 X.K pyMod) := by
  intro pins s σ H x y v u Qv I rx ry h
  obtain ⟨P, S, w, z, Q, W, r1, r2, g, nq⟩ := h
  unfold pyMod at g
  split at g
  · rename_i i j
    rw [rp_int] at r1 r2
    exact op_mod pins s σ H x y v u Qv I rx ry ⟨i, j, r1, r2, g.1, nq.now W rpInt g.2⟩
  · exact g.elim
theorem o_fdiv : OpR X (binaryOp .FloorDiv) (rd2 X.K pyFdiv) := by
  intro pins s σ H x y v u Qv I rx ry h
  obtain ⟨P, S, w, z, Q, W, r1, r2, g, nq⟩ := h
  unfold pyFdiv at g
  split at g
  · rename_i i j
    rw [rp_int] at r1 r2
    exact op_fdivW pins s σ H x y v u Qv I rx ry ⟨i, j, r1, r2, g.1, nq.now W rpInt g.2⟩
  · exact g.elim
theorem o_pow : OpR X (binaryOp .Pow) (rd2 X.K pyPow) := by
  intro pins s σ H x y v u Qv I rx ry h
  obtain ⟨P, S, w, z, Q, W, r1, r2, g, nq⟩ := h
  unfold pyPow at g
  split at g
  · rename_i i j
    rw [rp_int] at r1 r2
    exact op_pow pins s σ H x y v u Qv I rx ry ⟨i, j, r1, r2, g.1, nq.now W rpInt g.2⟩
  · exact g.elim
theorem o_neg : UnR X (unaryOp .USub) (rd1 X.K pyNeg) := by
  intro pins s σ H x v Qv I rx h
  obtain ⟨P, S, w, Q, W, r1, g, nq⟩ := h
  unfold pyNeg at g
  split at g
  · rename_i i
    rw [rp_int] at r1
    exact un_neg pins s σ H x v Qv I rx ⟨i, r1, nq.now W rpInt g⟩
  · exact g.elim
/-! ### comparisons -/
def pyRel (p : Int → Int → Bool) : Op2
  | .int i, .int j, S, Q => Q (.bl (p i j)) S
  | _, _, _, _ => False
def pyLt : Op2
  | .int i, .int j, S, Q => Q (.bl (decide (i < j))) S
  | _, _, _, _ => False
def pyLe : Op2
  | .int i, .int j, S, Q => Q (.bl (decide (i ≤ j))) S
  | _, _, _, _ => False
def pyGt : Op2
  | .int i, .int j, S, Q => Q (.bl (decide (j < i))) S
  | _, _, _, _ => False
def pyGe : Op2
  | .int i, .int j, S, Q => Q (.bl (decide (j ≤ i))) S
  | _, _, _, _ => False
theorem o_rel {f : Value → Value → Sem Value} {p : Int → Int → Bool} (h : OpR X f (rI0 fun i j => .bl (p i j))) : OpR X f (rd2 X.K (pyRel p)) := by
  intro pins s σ H x y v u Qv I rx ry q
  obtain ⟨P, S, w, z, Q, W, r1, r2, g, nq⟩ := q
  unfold pyRel at g
  split at g
  · rename_i i j
    rw [rp_int] at r1 r2
    exact h pins s σ H x y v u Qv I rx ry ⟨i, j, r1, r2, nq.now W rpBl g⟩
  · exact g.elim
theorem o_lt : OpR X (compareOp .Lt) (rd2 X.K pyLt) := o_rel op_lt
theorem o_le : OpR X (compareOp .LtE) (rd2 X.K pyLe) := o_rel op_le
theorem o_gt : OpR X (compareOp .Gt) (rd2 X.K pyGt) := o_rel op_gt
theorem o_ge : OpR X (compareOp .GtE) (rd2 X.K pyGe) := o_rel op_ge
/-- is: None, True, False -/
def isNon : Dt → Bool
  | .non => true
  | _ => false
def isBlW : Dt → Bool → Bool
  | .bl a, b => a == b
  | _, _ => false
def pyIs : Op2
  | x, .non, S, Q => Q (.bl (isNon x)) S
  | x, .bl b, S, Q => Q (.bl (isBlW x b)) S
  | _, _, _, _ => False
def pyIsNot : Op2
  | x, .non, S, Q => Q (.bl (!isNon x)) S
  | x, .bl b, S, Q => Q (.bl (!isBlW x b)) S
  | _, _, _, _ => False
theorem rp_isnon {K : Frg} {P : Hid} {S : Store} {H : Hp} {w : Dt} {v : V} (r : Rp K P S H w v) : decide (v = .non) = isNon w := by
  cases w with
  | non => rw [rp_non] at r; subst r; rfl
  | bl b => rw [rp_bl] at r; subst r; rfl
  | int b => rw [rp_int] at r; subst r; rfl
  | str b => rw [rp_str] at r; subst r; rfl
  | ty b => rw [rp_ty] at r; subst r; rfl
  | ref b => rw [rp_ref] at r; subst r; rfl
  | tup ws => unfold Rp at r; obtain ⟨a, xs, rfl, _⟩ := r; rfl
  | lst ws => unfold Rp at r; obtain ⟨a, xs, rfl, _⟩ := r; rfl
  | kl ws => unfold Rp at r; obtain ⟨a, xs, rfl, _⟩ := r; rfl
  | ins C ns ws => unfold Rp at r; obtain ⟨a, dx, xs, rfl, _⟩ := r; rfl
  | dK ks ws => unfold Rp at r; obtain ⟨a, xs, rfl, _⟩ := r; rfl
  | dT ks ws => unfold Rp at r; obtain ⟨a, xs, rfl, _⟩ := r; rfl
  | exn a dd ns ws => unfold Rp at r; obtain ⟨xs, rfl, _⟩ := r; rfl
theorem rp_isbl {K : Frg} {P : Hid} {S : Store} {H : Hp} {w : Dt} {v : V} {b : Bool} (r : Rp K P S H w v) : decide (v = .bl b) = isBlW w b := by
  cases w with
  | bl a => rw [rp_bl] at r; subst r; cases a <;> cases b <;> rfl
  | non => rw [rp_non] at r; subst r; rfl
  | int b => rw [rp_int] at r; subst r; rfl
  | str b => rw [rp_str] at r; subst r; rfl
  | ty b => rw [rp_ty] at r; subst r; rfl
  | ref b => rw [rp_ref] at r; subst r; rfl
  | tup ws => unfold Rp at r; obtain ⟨a, xs, rfl, _⟩ := r; rfl
  | lst ws => unfold Rp at r; obtain ⟨a, xs, rfl, _⟩ := r; rfl
  | kl ws => unfold Rp at r; obtain ⟨a, xs, rfl, _⟩ := r; rfl
  | ins C ns ws => unfold Rp at r; obtain ⟨a, dx, xs, rfl, _⟩ := r; rfl
  | dK ks ws => unfold Rp at r; obtain ⟨a, xs, rfl, _⟩ := r; rfl
  | dT ks ws => unfold Rp at r; obtain ⟨a, xs, rfl, _⟩ := r; rfl
  | exn a dd ns ws => unfold Rp at r; obtain ⟨xs, rfl, _⟩ := r; rfl
theorem is_bool {M : Model} {A : Around} {E : Value → Shared → Prop} {s : Shared} {Q : Value → Shared → Prop} {x : V} {v : Value} {b : Bool} (rx : L2.RelV x v) (q : Q (.bool (decide (x = .bl b))) s) : wpAny M A (compareOp .Is v (.bool b)) Q E s := by
  cases x with
  | bl a =>
    cases rx
    by_cases e : a = b
    · subst e
      exact wpAny_is_self rfl (by simpa using q)
    · exact wpAny_is_other rfl (fun z => e (Value.bool.inj z)) (by simpa [e] using q)
  | non => cases rx; exact wpAny_is_other rfl (fun z => nomatch z) q
  | int i => obtain ⟨t, rfl⟩ := rx; exact wpAny_is_other rfl (fun z => nomatch z) q
  | str i => obtain ⟨t, rfl⟩ := rx; exact wpAny_is_other rfl (fun z => nomatch z) q
  | byt i => obtain ⟨t, rfl⟩ := rx; exact wpAny_is_other rfl (fun z => nomatch z) q
  | flt i => obtain ⟨t, rfl⟩ := rx; exact wpAny_is_other rfl (fun z => nomatch z) q
  | ref a => cases rx; exact wpAny_is_other rfl (fun z => nomatch z) q
  | ty a => cases rx; exact wpAny_is_other rfl (fun z => nomatch z) q
theorem isnot_bool {M : Model} {A : Around} {E : Value → Shared → Prop} {s : Shared} {Q : Value → Shared → Prop} {x : V} {v : Value} {b : Bool} (rx : L2.RelV x v) (q : Q (.bool (!decide (x = .bl b))) s) : wpAny M A (compareOp .IsNot v (.bool b)) Q E s := by
  cases x with
  | bl a =>
    cases rx
    by_cases e : a = b
    · subst e
      exact wpAny_isNot_self rfl (by simpa using q)
    · exact wpAny_isNot_other rfl (fun z => e (Value.bool.inj z)) (by simpa [e] using q)
  | non => cases rx; exact wpAny_isNot_other rfl (fun z => nomatch z) q
  | int i => obtain ⟨t, rfl⟩ := rx; exact wpAny_isNot_other rfl (fun z => nomatch z) q
  | str i => obtain ⟨t, rfl⟩ := rx; exact wpAny_isNot_other rfl (fun z => nomatch z) q
  | byt i => obtain ⟨t, rfl⟩ := rx; exact wpAny_isNot_other rfl (fun z => nomatch z) q
  | flt i => obtain ⟨t, rfl⟩ := rx; exact wpAny_isNot_other rfl (fun z => nomatch z) q
  | ref a => cases rx; exact wpAny_isNot_other rfl (fun z => nomatch z) q
  | ty a => cases rx; exact wpAny_isNot_other rfl (fun z => nomatch z) q
theorem o_is : OpR X (compareOp .Is) (rd2 X.K pyIs) := by
  intro pins s σ H x y v u Qv I rx ry q
  obtain ⟨P, S, w, z, Q, W, r1, r2, g, nq⟩ := q
  unfold pyIs at g
  split at g
  · rw [rp_non] at r2
    refine op_isN pins s σ H x y v u Qv I rx ry ⟨r2, ?_⟩
    rw [rp_isnon r1]
    exact nq.now W rpBl g
  · rw [rp_bl] at r2
    subst r2
    cases ry
    refine is_bool rx ?_
    rw [rp_isbl r1]
    exact ⟨.bl _, H, I, rfl, nq.now W rpBl g⟩
  · exact g.elim
theorem o_isnot : OpR X (compareOp .IsNot) (rd2 X.K pyIsNot) := by
  intro pins s σ H x y v u Qv I rx ry q
  obtain ⟨P, S, w, z, Q, W, r1, r2, g, nq⟩ := q
  unfold pyIsNot at g
  split at g
  · rw [rp_non] at r2
    refine op_notN pins s σ H x y v u Qv I rx ry ⟨r2, ?_⟩
    rw [rp_isnon r1]
    exact nq.now W rpBl g
  · rw [rp_bl] at r2
    subst r2
    cases ry
    refine isnot_bool rx ?_
    rw [rp_isbl r1]
    exact ⟨.bl _, H, I, rfl, nq.now W rpBl g⟩
  · exact g.elim
end
/-- plain data, for == -/
def toP : Dt → Option PyData
  | .non => some .none
  | .bl b => some (.bool b)
  | .int i => some (.int i)
  | .str x => some (.str x)
  | .tup ws => (toPL ws).map .tuple
  | .lst ws => (toPL ws).map .list
  | .kl ws => (toPL ws).map .list
  | _ => none
where toPL : List Dt → Option (List PyData)
  | [] => some []
  | w :: ws => match toP w, toPL ws with
    | some d, some ds => some (d :: ds)
    | _, _ => none
section
variable {K : Frg} {P : Hid} {S : Store} {H : Hp}
mutual
theorem toP_of : ∀ (w : Dt) (v : V) (d : PyData), Rp K P S H w v → toP w = some d → Dp K H v d
  | .non, v, d, r, e => by rw [rp_non] at r; subst r; unfold toP at e; cases e; exact .non
  | .bl b, v, d, r, e => by rw [rp_bl] at r; subst r; unfold toP at e; cases e; exact .bl b
  | .int b, v, d, r, e => by rw [rp_int] at r; subst r; unfold toP at e; cases e; exact .int b
  | .str b, v, d, r, e => by rw [rp_str] at r; subst r; unfold toP at e; cases e; exact .str b
  | .tup ws, v, d, r, e => by
    obtain ⟨a, xs, rfl, h1, rl⟩ := rp_tup r
    unfold toP at e
    cases q : toP.toPL ws with
    | none => rw [q] at e; cases e
    | some ds =>
      rw [q] at e
      cases e
      exact .tup h1 (toPL_of ws xs ds rl q)
  | .lst ws, v, d, r, e => by
    unfold Rp at r
    obtain ⟨a, xs, rfl, h1, rl⟩ := r
    unfold toP at e
    cases q : toP.toPL ws with
    | none => rw [q] at e; cases e
    | some ds =>
      rw [q] at e
      cases e
      exact .lst h1.sqL (toPL_of ws xs ds rl q)
  | .kl ws, v, d, r, e => by
    unfold Rp at r
    obtain ⟨a, xs, rfl, h1, rl⟩ := r
    unfold toP at e
    cases q : toP.toPL ws with
    | none => rw [q] at e; cases e
    | some ds =>
      rw [q] at e
      cases e
      exact .lst (sqK_of h1) (toPL_of ws xs ds rl q)
  | .ty _, v, d, r, e => by unfold toP at e; cases e
  | .ref _, v, d, r, e => by unfold toP at e; cases e
  | .ins _ _ _, v, d, r, e => by unfold toP at e; cases e
  | .dK _ _, v, d, r, e => by unfold toP at e; cases e
  | .dT _ _, v, d, r, e => by unfold toP at e; cases e
  | .exn _ _ _ _, v, d, r, e => by unfold toP at e; cases e
theorem toPL_of : ∀ (ws : List Dt) (xs : List V) (ds : List PyData), RpL K P S H ws xs → toP.toPL ws = some ds → DpAll K H xs ds
  | [], xs, ds, r, e => by rw [r.nilE]; unfold toP.toPL at e; cases e; exact .nil
  | w :: ws, xs, ds, r, e => by
    obtain ⟨v, t, rfl, h1, h2⟩ := r.consE
    unfold toP.toPL at e
    cases q1 : toP w with
    | none => rw [q1] at e; cases e
    | some d =>
      cases q2 : toP.toPL ws with
      | none => rw [q1, q2] at e; cases e
      | some es =>
        rw [q1, q2] at e
        cases e
        exact .cons (toP_of w v d h1 q1) (toPL_of ws t es h2 q2)
end
end
mutual
/-- == of plain data -/
def eqD : Dt → Dt → Bool
  | .non, .non => true
  | .bl a, .bl b => a == b
  | .bl a, .int j => decide ((if a then (1 : Int) else 0) = j)
  | .int i, .bl b => decide (i = (if b then (1 : Int) else 0))
  | .int i, .int j => decide (i = j)
  | .str x, .str y => decide (x = y)
  | .tup as, .tup bs => eqDL as bs
  | .lst as, .lst bs => eqDL as bs
  | .lst as, .kl bs => eqDL as bs
  | .kl as, .lst bs => eqDL as bs
  | .kl as, .kl bs => eqDL as bs
  | _, _ => false
def eqDL : List Dt → List Dt → Bool
  | [], [] => true
  | a :: as, b :: bs => eqD a b && eqDL as bs
  | [], _ :: _ => false
  | _ :: _, [] => false
end
/-- plain, at most k deep -/
def fl : Nat → Dt → Bool
  | _, .non | _, .bl _ | _, .int _ => true
  | _, .str x => (PyData.str x).canLay0
  | k + 1, .tup ws | k + 1, .lst ws | k + 1, .kl ws => ws.all (fl k)
  | _, _ => false
theorem toPL_nil : toP.toPL [] = some [] := by unfold toP.toPL; rfl
theorem fl_list {k : Nat} (h : ∀ w, fl k w = true → ∃ d, toP w = some d ∧ d.canLay0 = true ∧ d.depth ≤ k) : ∀ ws : List Dt, ws.all (fl k) = true → ∃ ds, toP.toPL ws = some ds ∧ PyData.canLayAll0 ds = true ∧ PyData.depthAll ds ≤ k
  | [], _ => ⟨[], toPL_nil, by unfold PyData.canLayAll0; rfl, by unfold PyData.depthAll; omega⟩
  | w :: ws, q => by
    rw [List.all_cons, Bool.and_eq_true] at q
    obtain ⟨d, e1, c1, d1⟩ := h w q.1
    obtain ⟨ds, e2, c2, d2⟩ := fl_list h ws q.2
    refine ⟨d :: ds, by unfold toP.toPL; rw [e1, e2], ?_, ?_⟩
    · unfold PyData.canLayAll0
      rw [c1, c2]
      rfl
    · unfold PyData.depthAll
      omega
theorem fl_toP : ∀ (k : Nat) (w : Dt), fl k w = true → ∃ d, toP w = some d ∧ d.canLay0 = true ∧ d.depth ≤ k
  | _, .non, _ => ⟨.none, by unfold toP; rfl, by unfold PyData.canLay0; rfl, by unfold PyData.depth; omega⟩
  | _, .bl b, _ => ⟨.bool b, by unfold toP; rfl, by unfold PyData.canLay0; rfl, by unfold PyData.depth; omega⟩
  | _, .int b, _ => ⟨.int b, by unfold toP; rfl, by unfold PyData.canLay0; rfl, by unfold PyData.depth; omega⟩
  | k, .str b, h => ⟨.str b, by unfold toP; rfl, by cases k <;> exact h, by unfold PyData.depth; omega⟩
  | 0, .tup ws, h => by cases h
  | 0, .lst ws, h => by cases h
  | 0, .kl ws, h => by cases h
  | k + 1, .tup ws, h => by
    obtain ⟨ds, e, c, d⟩ := fl_list (fl_toP k) ws h
    refine ⟨.tuple ds, by unfold toP; rw [e]; rfl, by unfold PyData.canLay0; exact c, by unfold PyData.depth; omega⟩
  | k + 1, .lst ws, h => by
    obtain ⟨ds, e, c, d⟩ := fl_list (fl_toP k) ws h
    refine ⟨.list ds, by unfold toP; rw [e]; rfl, by unfold PyData.canLay0; exact c, by unfold PyData.depth; omega⟩
  | k + 1, .kl ws, h => by
    obtain ⟨ds, e, c, d⟩ := fl_list (fl_toP k) ws h
    refine ⟨.list ds, by unfold toP; rw [e]; rfl, by unfold PyData.canLay0; exact c, by unfold PyData.depth; omega⟩
  | 0, .ty _, h | 0, .ref _, h | 0, .ins _ _ _, h | 0, .dK _ _, h | 0, .dT _ _, h | 0, .exn _ _ _ _, h => by cases h
  | _ + 1, .ty _, h | _ + 1, .ref _, h | _ + 1, .ins _ _ _, h | _ + 1, .dK _ _, h | _ + 1, .dT _ _, h | _ + 1, .exn _ _ _ _, h => by cases h
theorem toP_tup {ws : List Dt} {d : PyData} (h : toP (.tup ws) = some d) : ∃ ds, toP.toPL ws = some ds ∧ d = .tuple ds := by
  unfold toP at h
  cases e : toP.toPL ws with
  | none => rw [e] at h; cases h
  | some ds => rw [e] at h; cases h; exact ⟨ds, rfl, rfl⟩
theorem toP_lst {ws : List Dt} {d : PyData} (h : toP (.lst ws) = some d ∨ toP (.kl ws) = some d) : ∃ ds, toP.toPL ws = some ds ∧ d = .list ds := by
  rcases h with h | h <;>
  · unfold toP at h
    cases e : toP.toPL ws with
    | none => rw [e] at h; cases h
    | some ds => rw [e] at h; cases h; exact ⟨ds, rfl, rfl⟩
theorem toPL_cons {w : Dt} {ws : List Dt} {ds : List PyData} (h : toP.toPL (w :: ws) = some ds) : ∃ d es, toP w = some d ∧ toP.toPL ws = some es ∧ ds = d :: es := by
  unfold toP.toPL at h
  cases e1 : toP w with
  | none => rw [e1] at h; cases h
  | some d =>
    cases e2 : toP.toPL ws with
    | none => rw [e1, e2] at h; cases h
    | some es => rw [e1, e2] at h; cases h; exact ⟨d, es, rfl, rfl, rfl⟩
theorem eqv_list {n : Nat} (ih : ∀ (a b : Dt) (d e : PyData), sizeOf a < n → toP a = some d → toP b = some e → PyData.eqv d e = eqD a b) : ∀ (as bs : List Dt) (ds es : List PyData), sizeOf as < n → toP.toPL as = some ds → toP.toPL bs = some es → PyData.eqvAll ds es = eqDL as bs
  | [], [], ds, es, _, h1, h2 => by
    rw [toPL_nil] at h1 h2
    cases h1; cases h2
    unfold PyData.eqvAll eqDL
    rfl
  | [], b :: bs, ds, es, _, h1, h2 => by
    rw [toPL_nil] at h1
    cases h1
    obtain ⟨d, es, _, _, rfl⟩ := toPL_cons h2
    unfold PyData.eqvAll eqDL
    rfl
  | a :: as, [], ds, es, _, h1, h2 => by
    rw [toPL_nil] at h2
    cases h2
    obtain ⟨d, es, _, _, rfl⟩ := toPL_cons h1
    unfold PyData.eqvAll eqDL
    rfl
  | a :: as, b :: bs, ds, es, hs, h1, h2 => by
    obtain ⟨d, ds, e1, e2, rfl⟩ := toPL_cons h1
    obtain ⟨e, es, f1, f2, rfl⟩ := toPL_cons h2
    rw [List.cons.sizeOf_spec] at hs
    unfold PyData.eqvAll eqDL
    rw [ih a b d e (by omega) e1 f1, eqv_list ih as bs ds es (by omega) e2 f2]
theorem eqv_eqD : ∀ (n : Nat) (a b : Dt) (d e : PyData), sizeOf a < n → toP a = some d → toP b = some e → PyData.eqv d e = eqD a b
  | 0, a, b, d, e, h, _, _ => absurd h (Nat.not_lt_zero _)
  | n + 1, a, b, d, e, hs, h1, h2 => by
    cases a <;> first | (unfold toP at h1; cases h1; done) | skip
    all_goals cases b <;> first | (unfold toP at h2; cases h2; done) | skip
    all_goals first
      | (unfold toP at h1 h2; cases h1; cases h2; unfold PyData.eqv eqD; first | rfl | simp [BEq.beq] | (rename_i x y; by_cases z : x = y <;> simp [z]))
      | (obtain ⟨ds, q1, rfl⟩ := toP_tup h1; obtain ⟨es, q2, rfl⟩ := toP_tup h2; unfold PyData.eqv eqD; rename_i as bs; exact eqv_list (n := n) (fun a b d e z => eqv_eqD n a b d e z) as bs ds es (by simp only [Dt.tup.sizeOf_spec] at hs; omega) q1 q2)
      | (obtain ⟨ds, q1, rfl⟩ := toP_lst (.inl h1); obtain ⟨es, q2, rfl⟩ := toP_lst (.inl h2); unfold PyData.eqv eqD; rename_i as bs; exact eqv_list (n := n) (fun a b d e z => eqv_eqD n a b d e z) as bs ds es (by simp only [Dt.lst.sizeOf_spec] at hs; omega) q1 q2)
      | (obtain ⟨ds, q1, rfl⟩ := toP_lst (.inl h1); obtain ⟨es, q2, rfl⟩ := toP_lst (.inr h2); unfold PyData.eqv eqD; rename_i as bs; exact eqv_list (n := n) (fun a b d e z => eqv_eqD n a b d e z) as bs ds es (by simp only [Dt.lst.sizeOf_spec] at hs; omega) q1 q2)
      | (obtain ⟨ds, q1, rfl⟩ := toP_lst (.inr h1); obtain ⟨es, q2, rfl⟩ := toP_lst (.inl h2); unfold PyData.eqv eqD; rename_i as bs; exact eqv_list (n := n) (fun a b d e z => eqv_eqD n a b d e z) as bs ds es (by simp only [Dt.kl.sizeOf_spec] at hs; omega) q1 q2)
      | (obtain ⟨ds, q1, rfl⟩ := toP_lst (.inr h1); obtain ⟨es, q2, rfl⟩ := toP_lst (.inr h2); unfold PyData.eqv eqD; rename_i as bs; exact eqv_list (n := n) (fun a b d e z => eqv_eqD n a b d e z) as bs ds es (by simp only [Dt.kl.sizeOf_spec] at hs; omega) q1 q2)
      | (obtain ⟨ds, q1, rfl⟩ := toP_tup h1; unfold toP at h2; cases h2; unfold PyData.eqv eqD; rfl)
      | (obtain ⟨ds, q1, rfl⟩ := toP_tup h2; unfold toP at h1; cases h1; unfold PyData.eqv eqD; rfl)
      | (obtain ⟨ds, q1, rfl⟩ := toP_lst (.inl h1); unfold toP at h2; cases h2; unfold PyData.eqv eqD; rfl)
      | (obtain ⟨ds, q1, rfl⟩ := toP_lst (.inr h1); unfold toP at h2; cases h2; unfold PyData.eqv eqD; rfl)
      | (obtain ⟨ds, q1, rfl⟩ := toP_lst (.inl h2); unfold toP at h1; cases h1; unfold PyData.eqv eqD; rfl)
      | (obtain ⟨ds, q1, rfl⟩ := toP_lst (.inr h2); unfold toP at h1; cases h1; unfold PyData.eqv eqD; rfl)
      | (obtain ⟨ds, q1, rfl⟩ := toP_tup h1; obtain ⟨es, q2, rfl⟩ := toP_lst (.inl h2); unfold PyData.eqv eqD; rfl)
      | (obtain ⟨ds, q1, rfl⟩ := toP_tup h1; obtain ⟨es, q2, rfl⟩ := toP_lst (.inr h2); unfold PyData.eqv eqD; rfl)
      | (obtain ⟨ds, q1, rfl⟩ := toP_lst (.inl h1); obtain ⟨es, q2, rfl⟩ := toP_tup h2; unfold PyData.eqv eqD; rfl)
      | (obtain ⟨ds, q1, rfl⟩ := toP_lst (.inr h1); obtain ⟨es, q2, rfl⟩ := toP_tup h2; unfold PyData.eqv eqD; rfl)
def pyEq : Op2
  | .int i, .int j, S, Q => Q (.bl (decide (i = j))) S
  | .bl i, .bl j, S, Q => Q (.bl (i == j)) S
  | .str i, .str j, S, Q => Q (.bl (decide (i = j))) S
  | x, y, S, Q => fl 60 x = true ∧ fl 60 y = true ∧ Q (.bl (eqD x y)) S
theorem fl_shaped {w : Dt} (h : fl 60 w = true) : ∃ d, toP w = some d ∧ SeqAt.shaped d = true := by
  obtain ⟨d, e, c, z⟩ := fl_toP 60 w h
  exact ⟨d, e, by unfold SeqAt.shaped; rw [c, decide_eq_true (show d.depth ≤ 64 by omega)]; rfl⟩
def pyNe : Op2 := fun x y S Q => pyEq x y S (fun w S1 => match w with | .bl b => Q (.bl (!b)) S1 | _ => False)
section
variable {X : Cx} {E : WX}
theorem vbl {a b : Bool} : decide (V.bl a = V.bl b) = (a == b) := by cases a <;> cases b <;> rfl
theorem o_eq (hu : X.A.units + 64 < cLine) : OpR X (compareOp .Eq) (rd2 X.K pyEq) := by
  intro pins s σ H x y v u Qv I rx ry q
  obtain ⟨P, S, w, z, Q, W, r1, r2, g, nq⟩ := q
  unfold pyEq at g
  split at g
  · rename_i a b
    rw [rp_int] at r1 r2
    subst r1 r2
    refine op_eq pins s σ H _ _ v u Qv I rx ry ⟨rfl, ?_⟩
    rw [dec_int]
    rw [show (a == b) = decide (a = b) from by simp [BEq.beq]]
    exact nq.now W rpBl g
  · rename_i a b
    rw [rp_bl] at r1 r2
    subst r1 r2
    refine op_eq pins s σ H _ _ v u Qv I rx ry ⟨rfl, ?_⟩
    rw [vbl]
    exact nq.now W rpBl g
  · rename_i a b
    rw [rp_str] at r1 r2
    subst r1 r2
    refine op_eq pins s σ H _ _ v u Qv I rx ry ⟨rfl, ?_⟩
    rw [show decide (V.str a = V.str b) = decide (a = b) from by by_cases e : a = b <;> simp [e]]
    exact nq.now W rpBl g
  · obtain ⟨d, ed, sd⟩ := fl_shaped g.1
    obtain ⟨e, ee, se⟩ := fl_shaped g.2.1
    exact op_eqD hu pins s σ H x y v u Qv I rx ry ⟨d, e, toP_of _ _ _ r1 ed, toP_of _ _ _ r2 ee, sd, se, by rw [eqv_eqD _ _ _ d e (Nat.lt_succ_self _) ed ee]; exact nq.now W rpBl g.2.2⟩
theorem o_ne (hu : X.A.units + 64 < cLine) : OpR X (compareOp .NotEq) (rd2 X.K pyNe) := by
  intro pins s σ H x y v u Qv I rx ry q
  obtain ⟨P, S, w, z, Q, W, r1, r2, g, nq⟩ := q
  unfold pyNe pyEq at g
  split at g
  · rename_i a b
    rw [rp_int] at r1 r2
    subst r1 r2
    refine op_ne pins s σ H _ _ v u Qv I rx ry ⟨rfl, ?_⟩
    rw [dec_int]
    rw [show (a == b) = decide (a = b) from by simp [BEq.beq]]
    exact nq.now W rpBl g
  · rename_i a b
    rw [rp_bl] at r1 r2
    subst r1 r2
    refine op_ne pins s σ H _ _ v u Qv I rx ry ⟨rfl, ?_⟩
    rw [vbl]
    exact nq.now W rpBl g
  · rename_i a b
    rw [rp_str] at r1 r2
    subst r1 r2
    refine op_ne pins s σ H _ _ v u Qv I rx ry ⟨rfl, ?_⟩
    rw [show decide (V.str a = V.str b) = decide (a = b) from by by_cases e : a = b <;> simp [e]]
    exact nq.now W rpBl g
  · obtain ⟨d, ed, sd⟩ := fl_shaped g.1
    obtain ⟨e, ee, se⟩ := fl_shaped g.2.1
    exact op_neD hu pins s σ H x y v u Qv I rx ry ⟨d, e, toP_of _ _ _ r1 ed, toP_of _ _ _ r2 ee, sd, se, by rw [eqv_eqD _ _ _ d e (Nat.lt_succ_self _) ed ee]; exact nq.now W rpBl g.2.2⟩
end
end Dn

namespace Dn
open PySem PySem.Spec PyProof.Rows L2
theorem RpL.mapBl {K : Frg} {P : Hid} {S : Store} {H : Hp} : ∀ {bs : List Bool} {xs : List V}, RpL K P S H (bs.map Dt.bl) xs → xs = bs.map V.bl
  | [], xs, h => h.nilE
  | b :: bs, xs, h => by
    obtain ⟨v, r, rfl, h1, h2⟩ := RpL.consE (w := .bl b) (ws := bs.map Dt.bl) h
    rw [rp_bl] at h1
    subst h1
    rw [RpL.mapBl h2]
    rfl
theorem RpL.mapInt {K : Frg} {P : Hid} {S : Store} {H : Hp} : ∀ {bs : List Int} {xs : List V}, RpL K P S H (bs.map Dt.int) xs → xs = bs.map V.int
  | [], xs, h => h.nilE
  | b :: bs, xs, h => by
    obtain ⟨v, r, rfl, h1, h2⟩ := RpL.consE (w := .int b) (ws := bs.map Dt.int) h
    rw [rp_int] at h1
    subst h1
    rw [RpL.mapInt h2]
    rfl
theorem RpL.ofInt {K : Frg} {P : Hid} {S : Store} {H : Hp} : ∀ {bs : List Int}, RpL K P S H (bs.map Dt.int) (bs.map V.int)
  | [] => RpL.nil
  | b :: bs => RpL.cons (w := .int b) (v := .int b) rpInt RpL.ofInt
/-! ### built-in functions -/
def pyLen : OpN
  | [.str z], S, Q => z.length ≤ sizeLine ∧ Q (.int (z.length : Nat)) S
  | [.tup ws], S, Q => Q (.int (ws.length : Nat)) S
  | [x], S, Q => match lsv S x with
    | some ws => Q (.int (ws.length : Nat)) S
    | none => False
  | _, _, _ => False
def pyInt : OpN
  | [.int i], S, Q => Q (.int i) S
  | [.bl b], S, Q => Q (.int (if b then 1 else 0)) S
  | _, _, _ => False
def pyTuple : OpN
  | [.tup ws], S, Q => Q (.tup ws) S
  | [x], S, Q => match lsv S x with
    | some ws => Q (.tup ws) S
    | none => False
  | _, _, _ => False
def pyAll : OpN
  | [x], S, Q => match lsv S x with
    | some ws => ∃ bs : List Bool, ws = bs.map Dt.bl ∧ Q (.bl (bs.all id)) S
    | none => False
  | _, _, _ => False
def pyAny : OpN
  | [x], S, Q => match lsv S x with
    | some ws => ∃ bs : List Bool, ws = bs.map Dt.bl ∧ Q (.bl (bs.any id)) S
    | none => False
  | _, _, _ => False
def pySum : OpN
  | [x], S, Q => match lsv S x with
    | some ws => ∃ ns : List Int, ws = ns.map Dt.int ∧ Q (.int ns.sum) S
    | none => False
  | _, _, _ => False
def pyMin : OpN
  | [.int i, .int j], S, Q => Q (.int (if j < i then j else i)) S
  | [x], S, Q => match lsv S x with
    | some ws => ∃ ns : List Int, ws = ns.map Dt.int ∧ 0 < ns.length ∧ ∀ m, m ∈ ns → (∀ y, y ∈ ns → m ≤ y) → Q (.int m) S
    | none => False
  | _, _, _ => False
def pyMax : OpN
  | [.int i, .int j], S, Q => Q (.int (if j > i then j else i)) S
  | [x], S, Q => match lsv S x with
    | some ws => ∃ ns : List Int, ws = ns.map Dt.int ∧ 0 < ns.length ∧ ∀ m, m ∈ ns → (∀ y, y ∈ ns → y ≤ m) → Q (.int m) S
    | none => False
  | _, _, _ => False
def pyAbs : OpN
  | [.int i], S, Q => Q (.int (if i < 0 then -i else i)) S
  | _, _, _ => False
/-- what isinstance asks of built-in classes -/
def tyN (S : Store) : Dt → Option String
  | .non => some "NoneType"
  | .bl _ => some "bool"
  | .int _ => some "int"
  | .str _ => some "str"
  | .tup _ => some "tuple"
  | .lst _ => some "list"
  | .kl _ => some "list"
  | .dK _ _ => some "dict"
  | .dT _ _ => some "dict"
  | .ref a => match S a with
    | some (.lst _) => some "list"
    | some (.dK _ _) => some "dict"
    | some (.dT _ _) => some "dict"
    | _ => none
  | _ => none
def pyIsi : OpN
  | [x, .ty n], S, Q => match tyN S x with
    | some t => match kitB t n with
      | some b => Q (.bl b) S
      | none => False
    | none => False
  | [x, .tup cs], S, Q => match tyN S x with
    | some t => ∃ (ns : List String) (bs : List Bool), cs = ns.map Dt.ty ∧ ns.map (kitB t) = bs.map some ∧ Q (.bl (bs.any id)) S
    | none => False
  | _, _, _ => False
section
variable {K : Frg} {P : Hid} {S : Store} {H : Hp}
theorem tyN_of (W : Wd K P S H) {w : Dt} {v : V} {t : String} (r : Rp K P S H w v) (h : tyN S w = some t) : TyX K H v (.type t) := by
  cases w with
  | non => rw [rp_non] at r; subst r; cases h; exact .base .non
  | bl b => rw [rp_bl] at r; subst r; cases h; exact .base (.bl b)
  | int b => rw [rp_int] at r; subst r; cases h; exact .base (.int b)
  | str b => rw [rp_str] at r; subst r; cases h; exact .base (.str b)
  | tup ws =>
    unfold Rp at r
    obtain ⟨a, xs, rfl, f, _⟩ := r
    cases h
    rcases f with f | f
    · exact .base (.tup f.1)
    · rcases f with (f | ⟨o, f⟩) | ⟨o, its, n, k, c, _⟩
      · cases f
      · cases f
      · exact .kTuple k c
  | lst ws =>
    unfold Rp at r
    obtain ⟨a, xs, rfl, f, _⟩ := r
    cases h
    exact .base (.lst f.1)
  | kl ws =>
    unfold Rp at r
    obtain ⟨a, xs, rfl, f, _⟩ := r
    cases h
    rcases f with ⟨o, f⟩ | f
    · exact .base (.frz f.1)
    · rcases f with (f | ⟨o, f⟩) | ⟨o, its, n, k, c, _⟩
      · cases f
      · cases f
      · exact .kList k c
  | dK ks ws =>
    unfold Rp at r
    obtain ⟨a, xs, rfl, f, _⟩ := r
    cases h
    exact .base (.dK f.1)
  | dT ks ws =>
    unfold Rp at r
    obtain ⟨a, xs, rfl, f, _⟩ := r
    cases h
    exact .base (.dT f.1)
  | ref a =>
    rw [rp_ref] at r
    subst r
    unfold tyN at h
    dsimp only at h
    cases e : S a with
    | none => rw [e] at h; cases h
    | some o =>
      rw [e] at h
      have q := W.sim a _ e
      cases o with
      | lst us => cases h; obtain ⟨xs, e2, _⟩ := q; exact .base (.lst e2)
      | dK _ _ => cases h; obtain ⟨xs, e2, _⟩ := q; exact .base (.dK e2)
      | dT _ _ => cases h; obtain ⟨xs, e2, _⟩ := q; exact .base (.dT e2)
      | ins _ _ _ => cases h
  | ty n => cases h
  | ins _ _ _ => cases h
  | exn _ _ _ _ => cases h
end
theorem kitAny_of {K : Frg} {t : String} : ∀ {ns : List String} {bs : List Bool}, ns.map (kitB t) = bs.map some → PySem.W.kitAny K (.type t) (ns.map Value.type) = some (bs.any id) := by
  intro ns
  induction ns with
  | nil => intro bs h; cases bs with | nil => rfl | cons b bs => cases h
  | cons n ns ih =>
    intro bs h
    cases bs with
    | nil => cases h
    | cons b bs =>
      rw [List.map_cons, List.map_cons] at h
      injection h with h1 h2
      have q := ih h2
      have k : PySem.W.kitOne K (.type t) (.type n) = some b := kit_ty h1
      rw [List.map_cons]
      unfold PySem.W.kitAny
      rw [k]
      cases b with
      | true => rfl
      | false =>
        rw [List.any_cons]
        simp only [id, Bool.false_or]
        exact q
section
variable {X : Cx} {E : WX}
theorem c_len : CallR X (.builtin "len") (rdN X.K pyLen) := by
  intro pins s σ H vs us Qv I rv h
  obtain ⟨P, S, ws, Q, W, r, g, nq⟩ := h
  unfold pyLen at g
  split at g
  · obtain ⟨v, rfl, r1⟩ := r.one
    rw [rp_str] at r1
    subst r1
    exact call_len pins s σ H _ us Qv I rv ⟨_, _, rfl, ⟨g.1, rfl⟩, nq.now W rpInt g.2⟩
  · obtain ⟨v, rfl, r1⟩ := r.one
    obtain ⟨a, xs, rfl, h1, rl⟩ := rp_tup r1
    exact call_len pins s σ H _ us Qv I rv ⟨_, _, rfl, .inr ⟨xs, h1, rfl⟩, by rw [← rl.length]; exact nq.now W rpInt g⟩
  · split at g
    · rename_i ws e
      obtain ⟨v, rfl, r1⟩ := r.one
      obtain ⟨a, xs, rfl, h1, rl⟩ := lsv_of W r1 e
      exact call_len pins s σ H _ us Qv I rv ⟨_, _, rfl, .inl ⟨xs, h1, rfl⟩, by rw [← rl.length]; exact nq.now W rpInt g⟩
    · exact g.elim
  · exact g.elim
theorem c_int : CallR X (.type "int") (rdN X.K pyInt) := by
  intro pins s σ H vs us Qv I rv h
  obtain ⟨P, S, ws, Q, W, r, g, nq⟩ := h
  unfold pyInt at g
  split at g
  · obtain ⟨v, rfl, r1⟩ := r.one
    rw [rp_int] at r1
    subst r1
    exact call_int1 pins s σ H _ us Qv I rv (.inl ⟨_, rfl, nq.now W rpInt g⟩)
  · obtain ⟨v, rfl, r1⟩ := r.one
    rw [rp_bl] at r1
    subst r1
    exact call_int1 pins s σ H _ us Qv I rv (.inr ⟨_, rfl, nq.now W rpInt g⟩)
  · exact g.elim
theorem c_tuple : CallR X (.type "tuple") (rdN X.K pyTuple) := by
  intro pins s σ H vs us Qv I rv h
  obtain ⟨P, S, ws, Q, W, r, g, nq⟩ := h
  unfold pyTuple at g
  split at g
  · obtain ⟨v, rfl, r1⟩ := r.one
    obtain ⟨a, xs, rfl, h1, rl⟩ := rp_tup r1
    exact call_tuple_of pins s σ H _ us Qv I rv ⟨_, _, rfl, .inr ⟨h1, nq.now W r1 g⟩⟩
  · split at g
    · rename_i ws e
      obtain ⟨v, rfl, r1⟩ := r.one
      obtain ⟨a, xs, rfl, h1, rl⟩ := lsv_of W r1 e
      exact call_tuple_of pins s σ H _ us Qv I rv ⟨_, _, rfl, .inl ⟨h1, fun l hl => nq.tup W rl g hl⟩⟩
    · exact g.elim
  · exact g.elim
theorem c_all (hc : X.calm = true) : CallR X (.builtin "all") (rdN X.K pyAll) := by
  intro pins s σ H vs us Qv I rv h
  obtain ⟨P, S, ws, Q, W, r, g, nq⟩ := h
  unfold pyAll at g
  split at g
  · split at g
    · rename_i ws e
      obtain ⟨bs, rfl, g⟩ := g
      obtain ⟨v, rfl, r1⟩ := r.one
      obtain ⟨a, xs, rfl, h1, rl⟩ := lsv_of W r1 e
      rw [rl.mapBl] at h1
      exact cr_all hc pins s σ H _ us Qv I rv ⟨a, bs, rfl, h1, nq.now W rpBl g⟩
    · exact g.elim
  · exact g.elim
theorem c_any (hc : X.calm = true) : CallR X (.builtin "any") (rdN X.K pyAny) := by
  intro pins s σ H vs us Qv I rv h
  obtain ⟨P, S, ws, Q, W, r, g, nq⟩ := h
  unfold pyAny at g
  split at g
  · split at g
    · rename_i ws e
      obtain ⟨bs, rfl, g⟩ := g
      obtain ⟨v, rfl, r1⟩ := r.one
      obtain ⟨a, xs, rfl, h1, rl⟩ := lsv_of W r1 e
      rw [rl.mapBl] at h1
      exact cr_any hc pins s σ H _ us Qv I rv ⟨a, bs, rfl, h1, nq.now W rpBl g⟩
    · exact g.elim
  · exact g.elim
theorem c_sum (hc : X.calm = true) : CallR X (.builtin "sum") (rdN X.K pySum) := by
  intro pins s σ H vs us Qv I rv h
  obtain ⟨P, S, ws, Q, W, r, g, nq⟩ := h
  unfold pySum at g
  split at g
  · split at g
    · rename_i ws e
      obtain ⟨bs, rfl, g⟩ := g
      obtain ⟨v, rfl, r1⟩ := r.one
      obtain ⟨a, xs, rfl, h1, rl⟩ := lsv_of W r1 e
      rw [rl.mapInt] at h1
      exact cr_sum hc pins s σ H _ us Qv I rv ⟨a, bs, rfl, h1, nq.now W rpInt g⟩
    · exact g.elim
  · exact g.elim
theorem c_min (hc : X.calm = true) : CallR X (.builtin "min") (rdN X.K pyMin) := by
  intro pins s σ H vs us Qv I rv h
  obtain ⟨P, S, ws, Q, W, r, g, nq⟩ := h
  unfold pyMin at g
  split at g
  · obtain ⟨v, u, rfl, r1, r2⟩ := r.two
    rw [rp_int] at r1 r2
    subst r1 r2
    exact call_min2 hc pins s σ H _ us Qv I rv ⟨_, _, rfl, nq.now W rpInt g⟩
  · split at g
    · rename_i ws e
      obtain ⟨bs, rfl, g0, g⟩ := g
      obtain ⟨v, rfl, r1⟩ := r.one
      obtain ⟨a, xs, rfl, h1, rl⟩ := lsv_of W r1 e
      rw [rl.mapInt] at h1
      exact cr_min hc pins s σ H _ us Qv I rv ⟨a, bs, rfl, h1, g0, fun m h1 h2 => nq.now W rpInt (g m h1 h2)⟩
    · exact g.elim
  · exact g.elim
theorem c_max (hc : X.calm = true) : CallR X (.builtin "max") (rdN X.K pyMax) := by
  intro pins s σ H vs us Qv I rv h
  obtain ⟨P, S, ws, Q, W, r, g, nq⟩ := h
  unfold pyMax at g
  split at g
  · obtain ⟨v, u, rfl, r1, r2⟩ := r.two
    rw [rp_int] at r1 r2
    subst r1 r2
    exact call_max2 hc pins s σ H _ us Qv I rv ⟨_, _, rfl, nq.now W rpInt g⟩
  · split at g
    · rename_i ws e
      obtain ⟨bs, rfl, g0, g⟩ := g
      obtain ⟨v, rfl, r1⟩ := r.one
      obtain ⟨a, xs, rfl, h1, rl⟩ := lsv_of W r1 e
      rw [rl.mapInt] at h1
      exact cr_max hc pins s σ H _ us Qv I rv ⟨a, bs, rfl, h1, g0, fun m h1 h2 => nq.now W rpInt (g m h1 h2)⟩
    · exact g.elim
  · exact g.elim
theorem c_abs : CallR X (.builtin "abs") (rdN X.K pyAbs) := by
  intro pins s σ H vs us Qv I rv h
  obtain ⟨P, S, ws, Q, W, r, g, nq⟩ := h
  unfold pyAbs at g
  split at g
  · obtain ⟨v, rfl, r1⟩ := r.one
    rw [rp_int] at r1
    subst r1
    exact call_abs pins s σ H _ us Qv I rv ⟨_, rfl, nq.now W rpInt g⟩
  · exact g.elim
theorem RpL.tys {K : Frg} {P : Hid} {S : Store} {H : Hp} : ∀ {ns : List String} {xs : List V}, RpL K P S H (ns.map Dt.ty) xs → Paired ClsV xs (ns.map Value.type)
  | [], xs, h => by rw [h.nilE]; exact .nil
  | n :: ns, xs, h => by
    obtain ⟨v, r, rfl, h1, h2⟩ := RpL.consE (w := .ty n) (ws := ns.map Dt.ty) h
    rw [rp_ty] at h1
    subst h1
    exact .cons (.ty n) (RpL.tys h2)
theorem c_isi : CallR X (.builtin "isinstance") (rdN X.K pyIsi) := by
  intro pins s σ H vs us Qv I rv h
  obtain ⟨P, S, ws, Q, W, r, g, nq⟩ := h
  unfold pyIsi at g
  split at g
  · obtain ⟨v, u, rfl, r1, r2⟩ := r.two
    rw [rp_ty] at r2
    subst r2
    split at g
    · rename_i t et
      split at g
      · rename_i b eb
        exact call_isi pins s σ H _ us Qv I rv ⟨v, _, _, _, b, rfl, .ty _, tyN_of W r1 et, kit_ty eb, nq.now W rpBl g⟩
      · exact g.elim
    · exact g.elim
  · obtain ⟨v, u, rfl, r1, r2⟩ := r.two
    split at g
    · rename_i t et
      obtain ⟨ns, bs, rfl, e, g⟩ := g
      unfold Rp at r2
      obtain ⟨a, xs, rfl, f, rl⟩ := r2
      rcases f with f | f
      · exact call_isiT pins s σ H _ us Qv I rv ⟨v, a, xs, _, _, _, rfl, f.1, rl.tys, tyN_of W r1 et, kitAny_of e, nq.now W rpBl g⟩
      · rcases f with (f | ⟨o, f⟩) | ⟨o, its, n, k, c, d, z, rv2⟩
        · cases f
        · cases f
        · have e3 := ClsV.all rl.tys rv2
          obtain ⟨oc, od, dt, sl⟩ := o
          simp only at c d
          subst c d
          refine call_isiK pins s σ H _ us Qv I rv ⟨v, a, od, ns.map Value.type, n, sl, _, _, rfl, ?_, tyN_of W r1 et, kitAny_of e, nq.now W rpBl g⟩
          rw [← e3]
          rw [k]
    · exact g.elim
  · exact g.elim
/-! ### subscripts, slices -/
def pyIx : Op2
  | .str z, .int i, S, Q => z.length ≤ sizeLine ∧ match atI z.cps.toList i with
    | some c => Q (.str ⟨#[c]⟩) S
    | none => False
  | .tup ws, .int i, S, Q => match atI ws i with
    | some w => Q w S
    | none => False
  | x, .int i, S, Q => match lsv S x with
    | some ws => match atI ws i with
      | some w => Q w S
      | none => False
    | none => False
  | _, _, _, _ => False
theorem atI_rp {K : Frg} {P : Hid} {S : Store} {H : Hp} {ws : List Dt} {xs : List V} {i : Int} {w : Dt} (rl : RpL K P S H ws xs) (h : atI ws i = some w) : ∃ v, atI xs i = some v ∧ Rp K P S H w v := by
  unfold atI at h ⊢
  rw [← rl.length]
  cases e : ixN ws.length i with
  | none => rw [e] at h; cases h
  | some j =>
    rw [e] at h
    exact rl.get (i := j) h
theorem o_ix : IxR X (rd2 X.K pyIx) := by
  intro value slice pins s σ H x y v u Qv I rx ry h hs
  obtain ⟨P, S, w, z, Q, W, r1, r2, g, nq⟩ := h
  unfold pyIx at g
  split at g
  · rw [rp_str] at r1
    rw [rp_int] at r2
    obtain ⟨g1, g2⟩ := g
    split at g2
    · rename_i c ec
      exact ix_str value slice pins s σ H x y v u Qv I rx ry ⟨_, _, c, r1, r2, g1, ec, nq.now W rpStr g2⟩ hs
    · exact g2.elim
  · obtain ⟨a, xs, rfl, h1, rl⟩ := rp_tup r1
    rw [rp_int] at r2
    split at g
    · rename_i w ew
      obtain ⟨y2, e2, r3⟩ := atI_rp rl ew
      exact ix_tup value slice pins s σ H _ y v u Qv I rx ry ⟨a, xs, _, y2, rfl, r2, h1, e2, nq.now W r3 g⟩ hs
    · exact g.elim
  · split at g
    · rename_i ws e
      obtain ⟨a, xs, rfl, h1, rl⟩ := lsv_of W r1 e
      rw [rp_int] at r2
      split at g
      · rename_i w ew
        obtain ⟨y2, e2, r3⟩ := atI_rp rl ew
        exact ix_list value slice pins s σ H _ y v u Qv I rx ry ⟨a, xs, _, y2, rfl, r2, h1, e2, nq.now W r3 g⟩ hs
      · exact g.elim
    · exact g.elim
  · exact g.elim
/-- a part of a slice -/
abbrev MO := Env → Store → (Option Int → Store → Prop) → (Exn → Store → Prop) → Prop
def NO (K : Frg) (P : Hid) (S : Store) (H : Hp) (Q : Option Int → Store → Prop) (Qv : Option Int → Hp → Prop) : Prop := ∀ b H' S', Wd K P S' H' → Evo S H S' H' → Q b S' → Qv b H'
def rdO (K : Frg) (E : WX) (m : MO) : TO := fun σv H Qv => ∃ P S σ Q Ex, Wd K P S H ∧ RpS K P S H σ σv ∧ m σ S Q Ex ∧ NO K P S H Q Qv ∧ NX K P S H Ex (fun c d H' => E c d σv H')
def JO (X : Cx) (E : WX) (e : Option Expr) (m : MO) : Prop := PO X e (rdO X.K E m)
def mNoPart : MO := fun _ S Q _ => Q none S
def mPart (m : ME) : MO := fun σ S Q Ex => m σ S (fun w S1 => match w with | .int i => Q (some i) S1 | _ => False) Ex
theorem PO.weak {X : Cx} {e : Option Expr} {t t' : TO} (h : PO X e t) (i : ∀ σ H Q, t' σ H Q → t σ H Q) : PO X e t' := ⟨fun pins s σ H Q I q => h.run pins s σ H Q I (i σ H Q q)⟩
theorem jo_none : JO X E none mNoPart := PO.weak po_none fun σv H Qv q => by
  obtain ⟨P, S, σ, Q, Ex, W, r, m, nq, nx⟩ := q
  exact nq none H S W Evo.refl m
theorem jo_some {e : Expr} {m : ME} (h : JE X E e m) : JO X E (some e) (mPart m) := PO.weak (po_some h) fun σv H Qv q => by
  obtain ⟨P, S, σ, Q, Ex, W, r, m, nq, nx⟩ := q
  refine ⟨P, S, σ, _, Ex, W, r, m, fun v H1 w S1 W1 r1 e1 m1 => ?_, nx⟩
  dsimp only at m1
  split at m1
  · rename_i i
    rw [rp_int] at r1
    exact ⟨i, r1, nq (some i) H1 S1 W1 e1 m1⟩
  · exact m1.elim
def cutW {α : Type} (xs : List α) (lo hi : Option Int) : List α := (xs.drop (HT.sIx xs.length 0 lo)).take (HT.sIx xs.length xs.length hi - HT.sIx xs.length 0 lo)
abbrev OpS := Dt → Option Int → Option Int → Store → (Dt → Store → Prop) → Prop
def pySlice : OpS
  | .str z, lo, hi, S, Q => z.length ≤ sizeLine ∧ Q (.str (cutS z lo hi)) S
  | .tup ws, lo, hi, S, Q => Q (.tup (cutW ws lo hi)) S
  | x, lo, hi, S, Q => match lsv S x with
    | some ws => Q (.lst (cutW ws lo hi)) S
    | none => False
def rdSl (K : Frg) (g : OpS) : V → Option Int → Option Int → Hp → VK → Prop := fun x lo hi H Qv => ∃ P S w Q, Wd K P S H ∧ Rp K P S H w x ∧ g w lo hi S Q ∧ NQ K P S H Q Qv
theorem cut_rp {K : Frg} {P : Hid} {S : Store} {H : Hp} {ws : List Dt} {xs : List V} {lo hi : Option Int} (rl : RpL K P S H ws xs) : RpL K P S H (cutW ws lo hi) (cutV xs lo hi) := by
  unfold cutW cutV
  rw [← rl.length]
  exact (rl.drop _).take _
theorem o_slice : SlR X (rdSl X.K pySlice) := by
  intro pins s σ H x v vl vu lo hi sl Qv I rx hs pl pu h
  obtain ⟨P, S, w, Q, W, r1, g, nq⟩ := h
  unfold pySlice at g
  split at g
  · rw [rp_str] at r1
    exact sl_str pins s σ H x v vl vu _ _ sl Qv I rx hs pl pu ⟨_, r1, g.1, nq.now W rpStr g.2⟩
  · rename_i ws
    obtain ⟨a, xs, rfl, h1, rl⟩ := rp_tup r1
    refine sl_tupA pins s σ H _ v vl vu _ _ sl Qv I rx hs pl pu ⟨a, xs, rfl, h1, fun e => ?_, fun _ p hp => nq.tup W (cut_rp rl) g hp⟩
    have e2 : cutW ws lo hi = ws := by
      unfold cutW
      rw [rl.length, e.1, e.2, Nat.sub_zero, List.drop_zero, ← rl.length, List.take_length]
    rw [e2] at g
    exact nq.now W r1 g
  · split at g
    · rename_i ws e
      obtain ⟨a, xs, rfl, h1, rl⟩ := lsv_of W r1 e
      exact sl_list pins s σ H _ v vl vu _ _ sl Qv I rx hs pl pu ⟨a, xs, rfl, h1, fun p hp => nq.lst W (cut_rp rl) g hp⟩
    · exact g.elim
def mSl (g : OpS) (ma : ME) (ml mh : MO) : ME := fun σ S Q Ex => ma σ S (fun x S1 => ml σ S1 (fun lo S2 => mh σ S2 (fun hi S3 => g x lo hi S3 Q) Ex) Ex) Ex
theorem je_slice {a : Expr} {lo hi : Option Expr} {ma : ME} {ml mh : MO} {g : OpS} {pos p2 : Pos} (hr : SlR X (rdSl X.K g)) (ha : JE X E a ma) (hl : JO X E lo ml) (hh : JO X E hi mh) : JE X E (.Subscript a (.Slice lo hi none p2) pos) (mSl g ma ml mh) := PE.weak (pe_slice hr ha hl hh) fun σv H Qv q => by
  obtain ⟨P, S, σ, Q, Ex, W, r, m, nq, nx⟩ := q
  refine ⟨P, S, σ, _, Ex, W, r, m, fun v H1 w S1 W1 r1 e1 m1 => ?_, nx⟩
  refine ⟨P, S1, σ, _, Ex, W1, r.mono e1, m1, fun o H2 S2 W2 e2 m2 => ?_, nx.after e1⟩
  refine ⟨P, S2, σ, _, Ex, W2, r.mono (e1.trans e2), m2, fun o2 H3 S3 W3 e3 m3 => ?_, nx.after (e1.trans e2)⟩
  exact ⟨P, S3, w, Q, W3, r1.mono (e2.trans e3), m3, nq.after ((e1.trans e2).trans e3)⟩
/-! ### methods of built-in types -/
def tyW (T : String) (S : Store) (w : Dt) : Bool := match T with
  | "list" => (lsv S w).isSome
  | "str" => match w with | .str _ => true | _ => false
  | _ => false
theorem tyW_of {K : Frg} {P : Hid} {S : Store} {H : Hp} {T : String} (W : Wd K P S H) {w : Dt} {v : V} (r : Rp K P S H w v) (h : tyW T S w = true) : tyV K T v H := by
  unfold tyW at h
  split at h
  · cases e : lsv S w with
    | none => rw [e] at h; cases h
    | some ws =>
      obtain ⟨a, xs, rfl, h1, _⟩ := lsv_of W r e
      exact .inl ⟨rfl, xs, h1⟩
  · split at h
    · rw [rp_str] at r; subst r; rfl
    · cases h
  · cases h
def mMeth (T : String) (g : Dt → OpN) (mo : ME) (ma : MA) : ME := fun σ S Q Ex => mo σ S (fun x S1 => tyW T S1 x = true ∧ ma σ S1 (fun xs S2 => g x xs S2 Q) Ex) Ex
theorem meth_weak {T : String} {g : Dt → OpN} {K : Frg} {mo : ME} {ma : MA} {σv : L2.St} {H : Hp} {Qv : VK} (h : rdE K E (mMeth T g mo ma) σv H Qv) : tBM K T (rdM K g) (rdE K E mo) (rdA K E ma) σv H Qv := by
  obtain ⟨P, S, σ, Q, Ex, W, r, m, nq, nx⟩ := h
  refine ⟨P, S, σ, _, Ex, W, r, m, fun v H1 w S1 W1 r1 e1 m1 => ?_, nx⟩
  refine ⟨tyW_of W1 r1 m1.1, P, S1, σ, _, Ex, W1, r.mono e1, m1.2, fun vs H2 ws S2 W2 r2 e2 m2 => ?_, nx.after e1⟩
  exact ⟨P, S2, w, ws, Q, W2, r1.mono e2, r2, m2, nq.after (e1.trans e2)⟩
theorem je_meth {o e : Expr} {es : List Expr} {name : Str} {T id : String} {g : Dt → OpN} {mo : ME} {ma : MA} {apos cpos : Pos} (pa : PlainAttrs T) (slot : Slot T name id) (hty : typeOf (.builtin id) = pure (.type "method_descriptor")) (hm : MtR X id (rdM X.K g)) (ho : JE X E o mo) (ha : JA X E (e :: es) ma)
    (hbase : attributeBase o name X.env (eval o X.env) = eval o X.env := by rfl)
    (hfew : ((backTo cpos (starEach (e :: es) X.env)).all (fun x => !x.1) && (backToKw cpos (keywordEach [] X.env)).all (fun x => x.1.isSome) && decide ((e :: es).length + ([] : List Keyword).length + (if ([] : List Keyword).isEmpty then 0 else 1) < 30)) = true := by rfl)
    (hline : (apos.endLine == cpos.line) = true := by rfl) (hs : starEach (e :: es) X.env = (false, eval e X.env) :: starEach es X.env := by rfl)
    (hplain : (backTo cpos (starEach es X.env)).any (·.1) = false := by rfl) : JE X E (.Call (.Attribute o name apos) (e :: es) [] cpos) (mMeth T g mo ma) :=
  PE.weak (pe_bm pa slot hty hm ho ha hbase hfew hline hs hplain) fun _ _ _ => meth_weak
def pyAppend : Dt → OpN
  | .ref a, [w], S, Q => match S a with
    | some (.lst ws) => ws.length < sizeLine ∧ Q .non (sup S a (.lst (ws ++ [w])))
    | _ => False
  | _, _, _, _ => False
theorem m_append : MtR X "list.append" (rdM X.K pyAppend) := by
  intro pins s σ H x vs v us Qv I rx rv h
  obtain ⟨P, S, w, ws, Q, W, r1, r2, g, nq⟩ := h
  unfold pyAppend at g
  split at g
  · rename_i a z
    rw [rp_ref] at r1
    subst r1
    obtain ⟨y, rfl, r3⟩ := r2.one
    split at g
    · rename_i us e
      obtain ⟨xs, e2, rl⟩ := W.sim a _ e
      refine mt_append pins s σ H _ _ v _ Qv I rx rv ⟨a, xs, y, rfl, rfl, e2, by rw [← rl.length]; exact g.1, ?_⟩
      have ev : Evo S H (sup S a (.lst (us ++ [z]))) (upd H a (.lst (xs ++ [y]))) := Evo.set e
      refine nq _ _ .non (sup S a (.lst (us ++ [z]))) (W.put (W.nohid e) (fun n => by rw [e] at n; cases n) ⟨xs ++ [y], upd_same, (rl.append (RpL.cons r3 RpL.nil)).mono ev⟩) rpNon ev g.2
    · exact g.elim
  · exact g.elim
def pyExtend : Dt → OpN
  | .ref a, [.tup zs], S, Q => match S a with
    | some (.lst ws) => ws.length + zs.length ≤ sizeLine ∧ Q .non (sup S a (.lst (ws ++ zs)))
    | _ => False
  | .ref a, [w], S, Q => match S a, plv S w with
    | some (.lst ws), some zs => ws.length + zs.length ≤ sizeLine ∧ Q .non (sup S a (.lst (ws ++ zs)))
    | _, _ => False
  | _, _, _, _ => False
theorem m_extend : MtR X "list.extend" (rdM X.K pyExtend) := by
  intro pins s σ H x vs v us Qv I rx rv h
  obtain ⟨P, S, w, ws, Q, W, r1, r2, g, nq⟩ := h
  unfold pyExtend at g
  split at g
  · rename_i a zs
    rw [rp_ref] at r1
    subst r1
    obtain ⟨y, rfl, r3⟩ := r2.one
    split at g
    · rename_i us e
      obtain ⟨xs, e2, rl⟩ := W.sim a _ e
      obtain ⟨b, ys, rfl, h1, rl3⟩ := rp_tup r3
      refine mt_extT pins s σ H _ _ v _ Qv I rx rv ⟨a, b, xs, ys, rfl, rfl, e2, h1, by rw [← rl.length, ← rl3.length]; exact g.1, ?_⟩
      have ev : Evo S H (sup S a (.lst (us ++ zs))) (upd H a (.lst (xs ++ ys))) := Evo.set e
      refine nq _ _ .non (sup S a (.lst (us ++ zs))) (W.put (W.nohid e) (fun n => by rw [e] at n; cases n) ⟨xs ++ ys, upd_same, (rl.append rl3).mono ev⟩) rpNon ev g.2
    · exact g.elim
  · rename_i a z hne
    rw [rp_ref] at r1
    subst r1
    obtain ⟨y, rfl, r3⟩ := r2.one
    split at g
    · rename_i us zs e ez
      obtain ⟨xs, e2, rl⟩ := W.sim a _ e
      obtain ⟨b, ys, rfl, e3, rl3⟩ := plv_of W r3 ez
      refine mt_extend pins s σ H _ _ v _ Qv I rx rv ⟨a, b, xs, ys, rfl, rfl, e2, e3, by rw [← rl.length, ← rl3.length]; exact g.1, ?_⟩
      have ev : Evo S H (sup S a (.lst (us ++ zs))) (upd H a (.lst (xs ++ ys))) := Evo.set e
      refine nq _ _ .non (sup S a (.lst (us ++ zs))) (W.put (W.nohid e) (fun n => by rw [e] at n; cases n) ⟨xs ++ ys, upd_same, (rl.append rl3).mono ev⟩) rpNon ev g.2
    · exact g.elim
  · exact g.elim
/-- a new list made by list(..) -/
def rdNL (K : Frg) (g : List Dt → Store → (List Dt → Store → Prop) → Prop) : List V → Hp → VK → Prop := fun xs H Qv => ∃ P S ws Q, Wd K P S H ∧ RpL K P S H ws xs ∧ g ws S Q ∧
  (∀ p H1 ys us, H p = none → H1 = upd H p (.lst ys) → RpL K P S H us ys → Q us S → Qv (.ref p) H1)
def mFnL (g : List Dt → Store → (List Dt → Store → Prop) → Prop) (ma : MA) : ML := fun σ S Q Ex => ma σ S (fun xs S1 => g xs S1 Q) Ex
def pyList : List Dt → Store → (List Dt → Store → Prop) → Prop
  | [.tup ws], S, Q => Q ws S
  | [x], S, Q => match lsv S x with
    | some ws => Q ws S
    | none => False
  | _, _, _ => False
theorem c_list : CallR X (.type "list") (rdNL X.K pyList) := by
  intro pins s σ H vs us Qv I rv h
  obtain ⟨P, S, ws, Q, W, r, g, nq⟩ := h
  unfold pyList at g
  split at g
  · obtain ⟨v, rfl, r1⟩ := r.one
    obtain ⟨a, xs, rfl, h1, rl⟩ := rp_tup r1
    exact call_list_of pins s σ H _ us Qv I rv ⟨a, xs, rfl, .inr h1, fun l hl => nq l _ xs _ hl rfl rl g⟩
  · split at g
    · rename_i ws e
      obtain ⟨v, rfl, r1⟩ := r.one
      obtain ⟨a, xs, rfl, h1, rl⟩ := lsv_of W r1 e
      exact call_list_of pins s σ H _ us Qv I rv ⟨a, xs, rfl, .inl h1, fun l hl => nq l _ xs _ hl rfl rl g⟩
    · exact g.elim
  · exact g.elim
theorem jl_callT {x : Str} {T : String} {e : Expr} {es : List Expr} {g : List Dt → Store → (List Dt → Store → Prop) → Prop} {ma : MA} {p pos : Pos} (hc : CallR X (.type T) (rdNL X.K g)) (hg : Gl X x) (hm : X.mg x = none) (hv : bootBuiltins x = some (.type T)) (ha : JA X E (e :: es) ma)
    (hn : x ≠ "__name__" := by decide) (hdb : (x == ("__debug__" : Str)) = false := by decide) (he : starEach (e :: es) X.env = (false, eval e X.env) :: starEach es X.env := by rfl)
    (hpl : (backTo pos (starEach es X.env)).any (·.1) = false := by rfl) :
    JL X E (.Call (.Name x p) (e :: es) [] pos) (mFnL g ma) := PE.weak (pe_callTy hc hg hm hv ha hn hdb he hpl) fun σv H Qv q => by
  obtain ⟨P, S, σ, Q, Ex, W, r, m, nq, nx⟩ := q
  exact ⟨P, S, σ, _, Ex, W, r, m, fun v H1 w S1 W1 r1 e1 m1 => ⟨P, S1, w, Q, W1, r1, m1, fun p H2 ys us hp e2 rl q2 => nq p H1 H2 ys us S1 W1 hp e2 rl e1 q2⟩, nx⟩
end
end Dn

namespace Dn
open PySem PySem.Spec PyProof.Rows L2
section
variable {X : Cx} {E : WX}
/-! ### statements -/
def mSeq (m1 m2 : MS) : MS := fun D σ S => m1 { D with nx := fun σ' S' => m2 D σ' S' } σ S
def mNext : MS := fun D σ S => D.nx σ S
def mRet (m : ME) : MS := fun D σ S => m σ S D.rt (fun x S' => D.ex x σ S')
def mRetN : MS := fun D σ S => D.rt .non S
def mIfS (mt : MT) (m1 m2 : MS) : MS := fun D σ S => mt σ S (fun b S1 => br b (m1 D σ S1) (m2 D σ S1)) (fun x S' => D.ex x σ S')
def mSet (i : Nat) (m : ME) : MS := fun D σ S => m σ S (fun w S1 => D.nx (σ.set i (some w)) S1) (fun x S' => D.ex x σ S')
def mDrop (m : ME) : MS := fun D σ S => m σ S (fun _ S1 => D.nx σ S1) (fun x S' => D.ex x σ S')
def mBrk : MS := fun D σ S => D.bk σ S
def mCnt : MS := fun D σ S => D.ct σ S
theorem NXS.at {K : Frg} {P : Hid} {S : Store} {H : Hp} {Q : Exn → Env → Store → Prop} {N : WX} (h : NXS K P S H Q N) {σ : Env} {σv : L2.St} (r : RpS K P S H σ σv) : NX K P S H (fun x S' => Q x σ S') (fun c d H' => N c d σv H') :=
  fun c d H2 x S2 W rx e q => h c d σv H2 x σ S2 W rx (r.mono e) e q
theorem jss_nil : JSs X E [] mNext := PSs.weak pss_nil fun σv H D q => by
  obtain ⟨P, S, σ, Dw, W, r, m, d⟩ := q
  exact d.nx σv H σ S W r Evo.refl m
theorem jss_cons {st : Stmt} {rest : List Stmt} {m1 m2 : MS} (h1 : JS X E st m1) (h2 : JSs X E rest m2) : JSs X E (st :: rest) (mSeq m1 m2) := PSs.weak (pss_cons h1 h2) fun σv H D q => by
  obtain ⟨P, S, σ, Dw, W, r, m, d⟩ := q
  exact ⟨P, S, σ, _, W, r, m, fun σv' H' σ' S' W' r' e' q' => ⟨P, S', σ', Dw, W', r', q', d.after e'⟩, d.rt, d.bk, d.ct, d.ex⟩
theorem jss_one {st : Stmt} {m : MS} (h1 : JS X E st m) : JSs X E [st] m := pss_one h1
theorem js_pass {pos} : JS X E (.Pass pos) mNext := PS.weak ps_pass fun σv H D q => by
  obtain ⟨P, S, σ, Dw, W, r, m, d⟩ := q
  exact d.nx σv H σ S W r Evo.refl m
theorem js_brk {pos} : JS X E (.Break pos) mBrk := PS.weak ps_break fun σv H D q => by
  obtain ⟨P, S, σ, Dw, W, r, m, d⟩ := q
  exact d.bk σv H σ S W r Evo.refl m
theorem js_cnt {pos} : JS X E (.Continue pos) mCnt := PS.weak ps_continue fun σv H D q => by
  obtain ⟨P, S, σ, Dw, W, r, m, d⟩ := q
  exact d.ct σv H σ S W r Evo.refl m
theorem js_ret {e : Expr} {m : ME} {pos} (h : JE X E e m) : JS X E (.Return (some e) pos) (mRet m) := PS.weak (ps_ret h) fun σv H D q => by
  obtain ⟨P, S, σ, Dw, W, r, m, d⟩ := q
  exact ⟨P, S, σ, _, _, W, r, m, d.rt, d.ex.at r⟩
theorem js_retN {pos} : JS X E (.Return none pos) mRetN := PS.weak ps_retN fun σv H D q => by
  obtain ⟨P, S, σ, Dw, W, r, m, d⟩ := q
  exact d.rt .non H .non S W rpNon Evo.refl m
theorem js_if {c : Expr} {a b : List Stmt} {mt : MT} {m1 m2 : MS} {pos} (hc : JT X E c mt) (h1 : JSs X E a m1) (h2 : JSs X E b m2) : JS X E (.If c a b pos) (mIfS mt m1 m2) := PS.weak (ps_if hc h1 h2) fun σv H D q => by
  obtain ⟨P, S, σ, Dw, W, r, m, d⟩ := q
  refine ⟨P, S, σ, _, _, W, r, m, fun b H1 S1 W1 e1 m1 => ?_, d.ex.at r⟩
  cases b with
  | true => exact ⟨P, S1, σ, Dw, W1, r.mono e1, m1, d.after e1⟩
  | false => exact ⟨P, S1, σ, Dw, W1, r.mono e1, m1, d.after e1⟩
theorem js_drop {e : Expr} {m : ME} {pos} (h : JE X E e m) (hs : swapsWith e none pos.line X.env = pure false := by rfl) : JS X E (.Expr e pos) (mDrop m) := PS.weak (ps_expr h hs) fun σv H D q => by
  obtain ⟨P, S, σ, Dw, W, r, m, d⟩ := q
  exact ⟨P, S, σ, _, _, W, r, m, fun v H1 w S1 W1 r1 e1 m1 => d.nx σv H1 σ S1 W1 (r.mono e1) e1 m1, d.ex.at r⟩
/-! ### targets -/
abbrev MG := Dt → Env → Store → (Env → Store → Prop) → (Exn → Env → Store → Prop) → Prop
def rdG (K : Frg) (E : WX) (mg : MG) : TG := fun v σv H R => ∃ P S σ w Q Ex, Wd K P S H ∧ RpS K P S H σ σv ∧ Rp K P S H w v ∧ mg w σ S Q Ex ∧ NN K P S H Q R ∧ NXS K P S H Ex E
abbrev MGs := List Dt → Env → Store → (Env → Store → Prop) → (Exn → Env → Store → Prop) → Prop
def rdGs (K : Frg) (E : WX) (mg : MGs) : TGs := fun vs σv H R => ∃ P S σ ws Q Ex, Wd K P S H ∧ RpS K P S H σ σv ∧ RpL K P S H ws vs ∧ mg ws σ S Q Ex ∧ NN K P S H Q R ∧ NXS K P S H Ex E
def JG (X : Cx) (E : WX) (e : Expr) (m : MG) : Prop := PG X e (rdG X.K E m)
def JGs (X : Cx) (E : WX) (es : List Expr) (m : MGs) : Prop := PGs X es (rdGs X.K E m)
theorem PG.weak {e : Expr} {t t' : TG} (h : PG X e t) (i : ∀ v σ H Q, t' v σ H Q → t v σ H Q) : PG X e t' := ⟨fun pins s σ H v u Q I r q => h.run pins s σ H v u Q I r (i v σ H Q q)⟩
theorem PGs.weak {e : List Expr} {t t' : TGs} (h : PGs X e t) (i : ∀ v σ H Q, t' v σ H Q → t v σ H Q) : PGs X e t' := ⟨fun pins s σ H v u Q I r q => h.run pins s σ H v u Q I r (i v σ H Q q)⟩
def mgName (i : Nat) : MG := fun w σ S Q _ => Q (σ.set i (some w)) S
def mgNil : MGs := fun ws σ S Q _ => match ws with
  | [] => Q σ S
  | _ :: _ => False
def mgCons (m : MG) (ms : MGs) : MGs := fun ws σ S Q Ex => match ws with
  | w :: r => m w σ S (fun σ1 S1 => ms r σ1 S1 Q Ex) Ex
  | [] => False
def mgTup (n : Nat) (ms : MGs) : MG := fun w σ S Q Ex => match w with
  | .tup ws => ws.length = n ∧ ms ws σ S Q Ex
  | _ => False
theorem jg_name {i : Nat} {x : Str} {pos : Pos} (h : PG X (.Name x pos) (gName i)) : JG X E (.Name x pos) (mgName i) := PG.weak h fun v σv H R q => by
  obtain ⟨P, S, σ, w, Q, Ex, W, r, rw', m, nn, nx⟩ := q
  exact nn _ H _ S W (r.set rw') Evo.refl m
theorem jgs_nil : JGs X E [] mgNil := PGs.weak pgs_nil fun v σv H R q => by
  obtain ⟨P, S, σ, w, Q, Ex, W, r, rw', m, nn, nx⟩ := q
  unfold mgNil at m
  split at m
  · exact ⟨rw'.nilE, nn _ H _ S W r Evo.refl m⟩
  · exact m.elim
theorem jgs_cons {e : Expr} {es : List Expr} {m : MG} {ms : MGs} (h1 : JG X E e m) (h2 : JGs X E es ms) (hs : (assignEach (e :: es) X.env).map (·.2) = assign e X.env :: (assignEach es X.env).map (·.2) := by rfl) : JGs X E (e :: es) (mgCons m ms) := PGs.weak (pgs_cons h1 h2 hs) fun v σv H R q => by
  obtain ⟨P, S, σ, w, Q, Ex, W, r, rw', m, nn, nx⟩ := q
  unfold mgCons at m
  split at m
  · obtain ⟨v1, vr, rfl, r1, r2⟩ := rw'.consE
    refine ⟨v1, vr, rfl, P, S, σ, _, _, Ex, W, r, r1, m, fun σv' H' σ' S' W' r' e' q' => ?_, nx⟩
    exact ⟨P, S', σ', _, Q, Ex, W', r', r2.mono e', q', nn.after e', nx.after e'⟩
  · exact m.elim
theorem jg_tup {es : List Expr} {k : Nat} {n : Nat} {ms : MGs} {pos : Pos} (hc : X.calm = true) (h : JGs X E es ms) (hn : (assignEach es X.env).length = n := by rfl) (hst : (assignEach es X.env).findIdx? (·.1) = none := by rfl) : JG X E (.Tuple es k pos) (mgTup n ms) :=
  PG.weak (pg_tup hc h hn hst) fun v σv H R q => by
    obtain ⟨P, S, σ, w, Q, Ex, W, r, rw', m, nn, nx⟩ := q
    unfold mgTup at m
    split at m
    · obtain ⟨a, xs, rfl, h1, rl⟩ := rp_tup rw'
      exact ⟨a, xs, rfl, h1, by rw [← rl.length]; exact m.1, P, S, σ, _, Q, Ex, W, r, rl, m.2, nn, nx⟩
    · exact m.elim
def mAsg (m : ME) (g : MG) : MS := fun D σ S => m σ S (fun w S1 => g w σ S1 D.nx D.ex) (fun x S' => D.ex x σ S')
theorem js_asg {tg e : Expr} {m : ME} {g : MG} {pos : Pos} (he : JE X E e m) (hg : JG X E tg g) (hs : swapsWithSole [tg] e pos.line X.env = pure false := by rfl) (hw : swappedStores [tg] e X.env = pure none := by rfl)
    (h1 : (assignEach [tg] X.env).map (·.2) = [assign tg X.env] := by rfl) : JS X E (.Assign [tg] e pos) (mAsg m g) :=
  PS.weak (ps_asg he hg hs hw h1) fun σv H D q => by
    obtain ⟨P, S, σ, Dw, W, r, m, d⟩ := q
    exact ⟨P, S, σ, _, _, W, r, m, fun v H1 w S1 W1 r1 e1 m1 => ⟨P, S1, σ, w, _, _, W1, r.mono e1, r1, m1, d.nx.after e1, d.ex.after e1⟩, d.ex.at r⟩
theorem js_set {i : Nat} {x : Str} {e : Expr} {m : ME} {pos pos' : Pos} (he : JE X E e m) (hg : PG X (.Name x pos') (gName i)) (hs : swapsWithSole [Expr.Name x pos'] e pos.line X.env = pure false := by rfl) (hw : swappedStores [Expr.Name x pos'] e X.env = pure none := by rfl)
    (h1 : (assignEach [Expr.Name x pos'] X.env).map (·.2) = [assign (.Name x pos') X.env] := by rfl) : JS X E (.Assign [.Name x pos'] e pos) (mSet i m) := js_asg he (jg_name hg) hs hw h1
/-- a, b = x, y -/
def mPar (i j : Nat) (ma : MA) : MS := fun D σ S => ma σ S (fun ws S1 => match ws with | [v, w] => D.nx ((σ.set i (some v)).set j (some w)) S1 | _ => False) (fun x S' => D.ex x σ S')
theorem js_par {i j : Nat} {x y : Str} {a b : Expr} {ma : MA} {px py pt pos : Pos} {kt k2 pt2} (hc : X.calm = true) (hN : X.N.Nodup) (hi : X.N[i]? = some x) (hj : X.N[j]? = some y) (hij : i ≠ j)
    (hx : X.env.scope.names.lookup x = some .local) (hy : X.env.scope.names.lookup y = some .local) (ha : JA X E [a, b] ma)
    (hw : swappedStores [.Tuple [.Name x px, .Name y py] kt pt] (.Tuple [a, b] k2 pt2) X.env = pure (some [x, y]) := by rfl)
    (hs : swapsWithSole [.Tuple [.Name x px, .Name y py] kt pt] (.Tuple [a, b] k2 pt2) pos.line X.env = pure false := by rfl) :
    JS X E (.Assign [.Tuple [.Name x px, .Name y py] kt pt] (.Tuple [a, b] k2 pt2) pos) (mPar i j ma) := PS.weak (ps_par hc hN hi hj hij hx hy ha hw hs) fun σv H D q => by
  obtain ⟨P, S, σ, Dw, W, r, m, d⟩ := q
  refine ⟨P, S, σ, _, _, W, r, m, fun vs H' ws S' W' rl e' q' => ?_, d.ex.at r⟩
  match ws, q' with
  | [v, w], q' =>
    unfold RpL at rl
    obtain ⟨v1, rr, rfl, r1, rl⟩ := rl
    unfold RpL at rl
    obtain ⟨v2, rr, rfl, r2, rl⟩ := rl
    unfold RpL at rl
    subst rl
    exact ⟨v1, v2, rfl, d.nx _ H' _ S' W' (((r.mono e').set r1).set r2) e' q'⟩
/-- o[i] = v -/
abbrev OpSet := Dt → Dt → Dt → Store → (Store → Prop) → Prop
def rdSet (K : Frg) (g : OpSet) : TSet := fun o i v H R => ∃ P S wo wi w Q, Wd K P S H ∧ Rp K P S H wo o ∧ Rp K P S H wi i ∧ Rp K P S H w v ∧ g wo wi w S Q ∧ (∀ H' S', Wd K P S' H' → Evo S H S' H' → Q S' → R H')
def mgSub (g : OpSet) (mo mi : ME) : MG := fun w σ S Q Ex => mo σ S (fun o S1 => mi σ S1 (fun i S2 => g o i w S2 (fun S3 => Q σ S3)) (fun x S' => Ex x σ S')) (fun x S' => Ex x σ S')
theorem jg_sub {o i : Expr} {mo mi : ME} {g : OpSet} {pos : Pos} (ho : JE X E o mo) (hi : JE X E i mi) (hs : PSet X (rdSet X.K g))
    (ha : ∀ v, assign (.Subscript o i pos) X.env v = (do
      let ov ← holding [v] (eval o X.env)
      let iv ← holding [v, ov] (eval i X.env)
      standAt pos
      holding [v, ov, iv] (setItem ov iv v)
      release [v, ov, iv] []) := by intro _; rfl) : JG X E (.Subscript o i pos) (mgSub g mo mi) := PG.weak (pg_sub ho hi hs ha) fun v σv H R q => by
  obtain ⟨P, S, σ, w, Q, Ex, W, r, rw', m, nn, nx⟩ := q
  refine ⟨P, S, σ, _, _, W, r, m, fun v1 H1 w1 S1 W1 r1 e1 m1 => ?_, nx.at r⟩
  refine ⟨P, S1, σ, _, _, W1, r.mono e1, m1, fun v2 H2 w2 S2 W2 r2 e2 m2 => ?_, (nx.at r).after e1⟩
  exact ⟨P, S2, w1, w2, w, _, W2, r1.mono e2, r2, rw'.mono (e1.trans e2), m2, fun H' S' W' e' q' => nn σv H' σ S' W' (r.mono ((e1.trans e2).trans e')) ((e1.trans e2).trans e') q'⟩
def pySetItem : OpSet
  | .ref a, .int k, w, S, Q => match S a with
    | some (.lst ws) => match ixN ws.length k with
      | some j => Q (sup S a (.lst (ws.set j w)))
      | none => False
    | _ => False
  | _, _, _, _, _ => False
theorem s_list : PSet X (rdSet X.K pySetItem) := by
  intro pins s σ H o i v ov iv u R I ro ri rv h
  obtain ⟨P, S, wo, wi, w, Q, W, r1, r2, r3, g, k⟩ := h
  unfold pySetItem at g
  split at g
  · rename_i a n
    rw [rp_ref] at r1
    rw [rp_int] at r2
    subst r1 r2
    split at g
    · rename_i ws e
      split at g
      · rename_i j ej
        obtain ⟨xs, e2, rl⟩ := W.sim a _ e
        refine set_list pins s σ H _ _ v ov iv u R I ro ri rv ⟨a, xs, n, j, rfl, rfl, e2, by rw [← rl.length]; exact ej, ?_⟩
        have ev : Evo S H (sup S a (.lst (ws.set j w))) (upd H a (.lst (xs.set j v))) := Evo.set e
        exact k _ (sup S a (.lst (ws.set j w))) (W.put (W.nohid e) (fun n => by rw [e] at n; cases n) ⟨xs.set j v, upd_same, (rl.set j r3).mono ev⟩) ev g
      · exact g.elim
    · exact g.elim
  · exact g.elim
/-! ### x op= e -/
def mAug (i : Nat) (g : Op2) (m : ME) : MS := fun D σ S => match σ[i]? with
  | some (some x) => m σ S (fun w S1 => g x w S1 (fun z S2 => D.nx (σ.set i (some z)) S2)) (fun x S' => D.ex x σ S')
  | _ => False
theorem js_aug {i : Nat} {x : Str} {e : Expr} {m : ME} {op : Operator} {g : Op2} {pos pos' : Pos} (hN : X.N.Nodup) (hi : X.N[i]? = some x) (hx : Loc X.env.scope x) (he : JE X E e m) (ho : PIp X op (rd2 X.K g)) (hf : X.fn x = true ∨ X.env.scope.names.lookup x = some .local := by first | exact .inl rfl | exact .inr rfl | assumption) :
    JS X E (.AugAssign (.Name x pos') op e pos) (mAug i g m) := PS.weak (ps_aug hN hi hx he ho hf) fun σv H D q => by
  obtain ⟨P, S, σ, Dw, W, r, m, d⟩ := q
  unfold mAug at m
  split at m
  · rename_i w ew
    obtain ⟨v, ev, r1⟩ := r.2 i w ew
    refine ⟨v, ev, P, S, σ, _, _, W, r, m, fun v2 H1 w2 S1 W1 r2 e1 m1 => ?_, d.ex.at r⟩
    exact ⟨P, S1, w, w2, _, W1, r1.mono e1, r2, m1, fun v3 H2 w3 S2 W2 r3 e2 m2 => d.nx _ H2 _ S2 W2 ((r.mono (e1.trans e2)).set r3) (e1.trans e2) m2⟩
  · exact m.elim
def pyIAdd : Op2
  | .int i, .int j, S, Q => Q (.int (i + j)) S
  | .str x, .str y, S, Q => x.length + y.length ≤ sizeLine ∧ Q (.str (x ++ y)) S
  | _, _, _, _ => False
theorem i_add : PIp X .Add (rd2 X.K pyIAdd) := by
  intro pins s σ H x y v u Qv I rx ry h
  obtain ⟨P, S, w, z, Q, W, r1, r2, g, nq⟩ := h
  unfold pyIAdd at g
  split at g
  · rename_i i j
    rw [rp_int] at r1 r2
    exact iop_add pins s σ H x y v u Qv I rx ry ⟨i, j, r1, r2, nq.now W rpInt g⟩
  · rename_i i j
    rw [rp_str] at r1 r2
    exact iop_add_str pins s σ H x y v u Qv I rx ry ⟨i, j, r1, r2, g.1, nq.now W rpStr g.2⟩
  · exact g.elim
theorem i_sub : PIp X .Sub (rd2 X.K pySub) := by
  intro pins s σ H x y v u Qv I rx ry h
  obtain ⟨P, S, w, z, Q, W, r1, r2, g, nq⟩ := h
  unfold pySub at g
  split at g
  · rename_i i j
    rw [rp_int] at r1 r2
    exact iop_sub pins s σ H x y v u Qv I rx ry ⟨i, j, r1, r2, nq.now W rpInt g⟩
  · exact g.elim
/-! ### what a for walks -/
/-- J hands out the data ws one by one, as long as gd holds of the store -/
def Deliv (K : Frg) (P : Hid) (J : It) (S0 : Store) (H0 : Hp) (ws : List Dt) (gd : Store → Prop) : Prop :=
  ∀ (P' : Hid) (S : Store) (H : Hp) (i : Nat), (∀ b, P' b → P b ∨ H0 b = none) → Wd K P' S H → Evo S0 H0 S H → gd S →
    (∀ w, ws[i]? = some w → J.go i H ∧ ∀ x H', J.yld i H x H' → Wd K P' S H' ∧ Evo S H S H' ∧ Rp K P' S H' w x) ∧ (ws.length ≤ i → J.stop i H)
abbrev MI := Env → Store → (List Dt → (Store → Prop) → Store → Prop) → (Exn → Store → Prop) → Prop
def rdI (K : Frg) (E : WX) (m : MI) : TI := fun σv H R => ∃ P S σ Q Ex, Wd K P S H ∧ RpS K P S H σ σv ∧ m σ S Q Ex ∧
  (∀ J H' ws gd S', Wd K P S' H' → Evo S H S' H' → Deliv K P J S' H' ws gd → Q ws gd S' → R J H') ∧ NX K P S H Ex (fun c d H' => E c d σv H')
def JI (X : Cx) (E : WX) (tg it : Expr) (m : MI) : Prop := PI X tg it (rdI X.K E m)
theorem PI.weak {tg e : Expr} {t t' : TI} (h : PI X tg e t) (i : ∀ σ H Q, t' σ H Q → t σ H Q) : PI X tg e t' := ⟨fun pins s σ H Q I q => h.run pins s σ H Q I (i σ H Q q)⟩
/-- a list, a tuple -/
def mIter (m : ME) : MI := fun σ S Q Ex => m σ S (fun w S1 => match w with
  | .ref a => match S1 a with | some (.lst ws) => Q ws (fun S2 => S2 a = some (.lst ws)) S1 | _ => False
  | .lst ws => Q ws (fun _ => True) S1
  | .kl ws => Q ws (fun _ => True) S1
  | _ => False) Ex
def mIterT (m : ME) : MI := fun σ S Q Ex => m σ S (fun w S1 => match w with | .tup ws => Q ws (fun _ => True) S1 | _ => False) Ex
end
section
variable {K : Frg} {P P' : Hid} {S S0 : Store} {H H0 : Hp}
theorem Fz.live {a : Addr} {o : HO} (f : Fz P S0 H0 a o) (hp : ∀ b, P' b → P b ∨ H0 b = none) (e : Evo S0 H0 S H) : Fz P' S H a o :=
  ⟨(e a o f.2.1 f.1).1, (e a o f.2.1 f.1).2, fun q => (hp a q).elim f.2.2 fun n => by rw [f.1] at n; cases n⟩
theorem rp_live (hp : ∀ b, P' b → P b ∨ H0 b = none) (e : Evo S0 H0 S H) {w : Dt} {v : V} (r : Rp K P S0 H0 w v) : Rp K P' S H w v :=
  Rp.conv (fun a o h n p => ⟨(e a o n h).1, (e a o n h).2, fun q => (hp a q).elim p fun n => by rw [h] at n; cases n⟩) w v r
theorem rpl_live (hp : ∀ b, P' b → P b ∨ H0 b = none) (e : Evo S0 H0 S H) {w : List Dt} {v : List V} (r : RpL K P S0 H0 w v) : RpL K P' S H w v :=
  RpL.conv (fun a o h n p => ⟨(e a o n h).1, (e a o n h).2, fun q => (hp a q).elim p fun n => by rw [h] at n; cases n⟩) w v r
end
section
variable {X : Cx} {E : WX}
theorem RpL.none_at {K : Frg} {P : Hid} {S : Store} {H : Hp} {ws : List Dt} {xs : List V} (r : RpL K P S H ws xs) {i : Nat} (h : ws.length ≤ i) : xs[i]? = none := by
  rw [r.length] at h
  exact List.getElem?_eq_none h
theorem ji_list {tg l : Expr} {m : ME} (hl : JE X E l m) : JI X E tg l (mIter m) := PI.weak (pi_list hl) fun σv H R q => by
  obtain ⟨P, S, σ, Q, Ex, W, r, m, nj, nx⟩ := q
  refine ⟨P, S, σ, _, Ex, W, r, m, fun v H1 w S1 W1 r1 e1 m1 => ?_, nx⟩
  have fin : ∀ (a : Addr) (xs : List V) (ws : List Dt), SqL X.K H1 a xs → RpL X.K P S1 H1 ws xs → (∀ (P' : Hid) (S2 : Store) (H2 : Hp), (∀ b, P' b → P b ∨ H1 b = none) → Evo S1 H1 S2 H2 → SqL X.K H2 a xs) → Deliv X.K P (Itl X.K a) S1 H1 ws (fun _ => True) :=
    fun a xs ws h1 rl k P' S2 H2 i hp W2 e2 _ => by
      have h2 := k P' S2 H2 hp e2
      have rl2 := rpl_live hp e2 rl
      refine ⟨fun w ew => ?_, fun hi => ⟨xs, h2, by rw [← rl.length]; exact hi⟩⟩
      obtain ⟨x, ex, rx⟩ := rl2.get ew
      refine ⟨⟨xs, x, h2, ex⟩, fun y H' hy => ?_⟩
      obtain ⟨rfl, hy⟩ := hy
      have := (hy xs h2).symm.trans ex
      cases this
      exact ⟨W2, Evo.refl, rx⟩
  dsimp only at m1
  split at m1
  · rename_i a
    rw [rp_ref] at r1
    subst r1
    split at m1
    · rename_i ws e
      obtain ⟨xs, e2, rl⟩ := W1.sim a _ e
      refine ⟨a, rfl, ⟨xs, SqL.of e2⟩, nj _ H1 ws _ S1 W1 e1 (fun P' S2 H2 i hp W2 ev g => ?_) m1⟩
      obtain ⟨ys, e3, rl3⟩ := W2.sim a _ g
      refine ⟨fun w ew => ?_, fun hi => ⟨ys, SqL.of e3, by rw [← rl3.length]; exact hi⟩⟩
      obtain ⟨x, ex, rx⟩ := rl3.get ew
      refine ⟨⟨ys, x, SqL.of e3, ex⟩, fun y H' hy => ?_⟩
      obtain ⟨rfl, hy⟩ := hy
      have := (hy ys (SqL.of e3)).symm.trans ex
      cases this
      exact ⟨W2, Evo.refl, rx⟩
    · exact m1.elim
  · rename_i ws
    unfold Rp at r1
    obtain ⟨a, xs, rfl, f, rl⟩ := r1
    exact ⟨a, rfl, ⟨xs, f.sqL⟩, nj _ H1 ws _ S1 W1 e1 (fin a xs ws f.sqL rl fun P' S2 H2 hp e2 => SqL.of (e2 a _ f.2.1 f.1).1) m1⟩
  · rename_i ws
    unfold Rp at r1
    obtain ⟨a, xs, rfl, f, rl⟩ := r1
    refine ⟨a, rfl, ⟨xs, sqK_of f⟩, nj _ H1 ws _ S1 W1 e1 (fin a xs ws (sqK_of f) rl fun P' S2 H2 hp e2 => ?_) m1⟩
    rcases f with ⟨o, f⟩ | f
    · exact .inl (.inr ⟨o, (e2 a _ f.2.1 f.1).1⟩)
    · exact f.sq
  · exact m1.elim
theorem ji_tup {tg l : Expr} {m : ME} (hl : JE X E l m) : JI X E tg l (mIterT m) := PI.weak (pi_tup hl) fun σv H R q => by
  obtain ⟨P, S, σ, Q, Ex, W, r, m, nj, nx⟩ := q
  refine ⟨P, S, σ, _, Ex, W, r, m, fun v H1 w S1 W1 r1 e1 m1 => ?_, nx⟩
  dsimp only at m1
  split at m1
  · rename_i ws
    unfold Rp at r1
    obtain ⟨a, xs, rfl, f, rl⟩ := r1
    refine ⟨a, rfl, ⟨xs, sqT_of f⟩, nj _ H1 ws _ S1 W1 e1 (fun P' S2 H2 i hp W2 e2 _ => ?_) m1⟩
    have h2 : SqT X.K H2 a xs := by
      rcases f with f | f
      · exact SqT.of (e2 a _ f.2.1 f.1).1
      · exact f.sq
    have rl2 := rpl_live hp e2 rl
    refine ⟨fun w ew => ?_, fun hi => ⟨xs, h2, by rw [← rl.length]; exact hi⟩⟩
    obtain ⟨x, ex, rx⟩ := rl2.get ew
    refine ⟨⟨xs, x, h2, ex⟩, fun y H' hy => ?_⟩
    obtain ⟨rfl, hy⟩ := hy
    have := (hy xs h2).symm.trans ex
    cases this
    exact ⟨W2, Evo.refl, rx⟩
  · exact m1.elim
/-- range -/
def rangeW (lo : Int) : Nat → List Dt
  | 0 => []
  | n + 1 => .int lo :: rangeW (lo + 1) n
theorem rangeW_len : ∀ (n : Nat) (lo : Int), (rangeW lo n).length = n
  | 0, _ => rfl
  | n + 1, lo => by unfold rangeW; rw [List.length_cons, rangeW_len n]
theorem rangeW_get : ∀ (n : Nat) (lo : Int) (i : Nat), i < n → (rangeW lo n)[i]? = some (.int (lo + i))
  | 0, _, i, h => by omega
  | n + 1, lo, 0, h => by unfold rangeW; simp
  | n + 1, lo, i + 1, h => by
    unfold rangeW
    rw [List.getElem?_cons_succ, rangeW_get n (lo + 1) i (by omega)]
    congr 2
    omega
theorem rng_deliv {K : Frg} {P : Hid} {S : Store} {H : Hp} {lo : Int} {n : Nat} : Deliv K P (Itr lo n) S H (rangeW lo n) (fun _ => True) := fun P' S2 H2 i hp W2 e2 _ => by
  refine ⟨fun w ew => ?_, fun hi => by rw [rangeW_len] at hi; exact hi⟩
  have hi : i < n := by
    have := (List.getElem?_eq_some_iff.mp ew).1
    rw [rangeW_len] at this
    exact this
  rw [rangeW_get n lo i hi] at ew
  cases ew
  refine ⟨hi, fun y H' hy => ?_⟩
  obtain ⟨rfl, rfl⟩ := hy
  exact ⟨W2, Evo.refl, rpInt⟩
def mRng1 (m : MA) : MI := fun σ S Q Ex => m σ S (fun ws S1 => match ws with | [.int n] => (-(2 ^ 62) ≤ n ∧ n < 2 ^ 62) ∧ Q (rangeW 0 n.toNat) (fun _ => True) S1 | _ => False) Ex
def mRng2 (m : MA) : MI := fun σ S Q Ex => m σ S (fun ws S1 => match ws with | [.int a, .int n] => (-(2 ^ 62) ≤ a ∧ a < 2 ^ 62 ∧ -(2 ^ 62) ≤ n ∧ n < 2 ^ 62) ∧ Q (rangeW a (n - a).toNat) (fun _ => True) S1 | _ => False) Ex
theorem ji_rng1 {tg a : Expr} {m : MA} {p pos : Pos} (hg : Gl X "range") (hm : X.mg "range" = none) (ha : JA X E [a] m) (hs : starEach [a] X.env = [(false, eval a X.env)] := by rfl) : JI X E tg (.Call (.Name "range" p) [a] [] pos) (mRng1 m) := PI.weak (pi_range1 hg hm ha hs) fun σv H R q => by
  obtain ⟨P, S, σ, Q, Ex, W, r, m, nj, nx⟩ := q
  refine ⟨P, S, σ, _, Ex, W, r, m, fun v H1 w S1 W1 r1 e1 m1 => ?_, nx⟩
  dsimp only at m1
  split at m1
  · obtain ⟨y, rfl, r2⟩ := r1.one
    rw [rp_int] at r2
    subst r2
    exact ⟨_, rfl, m1.1.1, m1.1.2, nj _ H1 _ _ S1 W1 e1 rng_deliv m1.2⟩
  · exact m1.elim
theorem ji_rng2 {tg a b : Expr} {m : MA} {p pos : Pos} (hg : Gl X "range") (hm : X.mg "range" = none) (ha : JA X E [a, b] m) (hs : starEach [a, b] X.env = [(false, eval a X.env), (false, eval b X.env)] := by rfl) (hs2 : starEach [b] X.env = [(false, eval b X.env)] := by rfl) : JI X E tg (.Call (.Name "range" p) [a, b] [] pos) (mRng2 m) := PI.weak (pi_range2 hg hm ha hs hs2) fun σv H R q => by
  obtain ⟨P, S, σ, Q, Ex, W, r, m, nj, nx⟩ := q
  refine ⟨P, S, σ, _, Ex, W, r, m, fun v H1 w S1 W1 r1 e1 m1 => ?_, nx⟩
  dsimp only at m1
  split at m1
  · obtain ⟨y, z, rfl, r2, r3⟩ := r1.two
    rw [rp_int] at r2 r3
    subst r2 r3
    exact ⟨_, _, rfl, m1.1, nj _ H1 _ _ S1 W1 e1 rng_deliv m1.2⟩
  · exact m1.elim
/-! ### loops -/
def forW (g : MG) (body : MS) (gd : Store → Prop) (D : EndsW) : List Dt → Env → Store → Prop
  | [], σ, S => gd S ∧ D.nx σ S
  | w :: ws, σ, S => gd S ∧ g w σ S (fun σ1 S1 => body { D with nx := forW g body gd D ws, ct := forW g body gd D ws, bk := D.nx } σ1 S1) D.ex
@[irreducible] def loopW (g : MG) (body : MS) (gd : Store → Prop) (D : EndsW) (ws : List Dt) (σ : Env) (S : Store) : Prop := forW g body gd D ws σ S
theorem loopW_eq {g : MG} {body : MS} {gd : Store → Prop} {D : EndsW} : loopW g body gd D = forW g body gd D := by
  funext ws σ S
  unfold loopW
  rfl
def mFor (mi : MI) (g : MG) (body : MS) : MS := fun D σ S => mi σ S (fun ws gd S1 => loopW g body gd D ws σ S1) (fun x S' => D.ex x σ S')
theorem js_for {tg iter : Expr} {body : List Stmt} {mi : MI} {g : MG} {mb : MS} {pos : Pos} (hp : PassesOwn (model X.prog X.w) X.A X.env X.xe) (hc : X.calm = true) (hi : JI X E tg iter mi) (hg : JG X E tg g) (hb : JSs X E body mb)
    (hs : ∀ x, foldedSetIterable iter X.env x = pure x := by intro _; rfl) : JS X E (.For tg iter body [] pos) (mFor mi g mb) := PS.weak (ps_for hp hc hi hg hb hs) fun σv H D q => by
  obtain ⟨P, S, σ, Dw, W, r, m, d⟩ := q
  unfold mFor at m
  simp only [loopW_eq] at m
  refine ⟨P, S, σ, _, _, W, r, m, fun J H1 ws gd S1 W1 e1 dl m1 => ?_, d.ex.at r⟩
  refine ⟨fun i k σv2 H2 => ∃ σ2 S2 us, Wd X.K P S2 H2 ∧ RpS X.K P S2 H2 σ2 σv2 ∧ Evo S1 H1 S2 H2 ∧ us = ws.drop i ∧ k = us.length ∧ i ≤ ws.length ∧ forW g mb gd Dw us σ2 S2, ⟨ws.length, σ, S1, ws, W1, r.mono e1, Evo.refl, rfl, rfl, Nat.zero_le _, m1⟩, ?_⟩
  rintro i k σv2 H2 ⟨σ2, S2, us, W2, r2, e2, eu, ek, hi, f⟩
  cases us with
  | nil =>
    unfold forW at f
    have hl : ws.length ≤ i := by
      have := congrArg List.length eu
      simp at this
      omega
    exact .inl ⟨(dl P S2 H2 i (fun b h => .inl h) W2 e2 f.1).2 hl, d.nx σv2 H2 σ2 S2 W2 r2 (e1.trans e2) f.2⟩
  | cons w us =>
    unfold forW at f
    have ew : ws[i]? = some w := by
      have := congrArg List.head? eu
      rw [List.head?_cons, List.head?_drop] at this
      exact this.symm
    have hil : i < ws.length := (List.getElem?_eq_some_iff.mp ew).1
    have eu2 : us = ws.drop (i + 1) := by
      have := congrArg List.tail eu
      rw [List.tail_cons, List.tail_drop] at this
      exact this
    obtain ⟨hgo, hy⟩ := (dl P S2 H2 i (fun b h => .inl h) W2 e2 f.1).1 w ew
    refine .inr ⟨hgo, fun σ' H' => ∃ σ3 S3, Wd X.K P S3 H' ∧ RpS X.K P S3 H' σ3 σ' ∧ Evo S1 H1 S3 H' ∧ forW g mb gd Dw us σ3 S3, fun σ' H' hN => ?_, fun x H' hx => ?_⟩
    · obtain ⟨σ3, S3, W3, r3, e3, f3⟩ := hN
      exact ⟨us.length, by rw [ek, List.length_cons]; omega, σ3, S3, us, W3, r3, e3, eu2, rfl, hil, f3⟩
    · obtain ⟨W3, e3, r3⟩ := hy x H' hx
      refine ⟨P, S2, σ2, w, _, _, W3, r2.mono e3, r3, f.2, fun σv4 H4 σ4 S4 W4 r4 e4 q4 => ?_, d.ex.after ((e1.trans e2).trans e3)⟩
      have e14 : Evo S1 H1 S4 H4 := (e2.trans e3).trans e4
      refine ⟨P, S4, σ4, _, W4, r4, q4, ⟨fun σv5 H5 σ5 S5 W5 r5 e5 q5 => ⟨σ5, S5, W5, r5, e14.trans e5, q5⟩, d.rt.after (e1.trans e14), d.nx.after (e1.trans e14), fun σv5 H5 σ5 S5 W5 r5 e5 q5 => ⟨σ5, S5, W5, r5, e14.trans e5, q5⟩, d.ex.after (e1.trans e14)⟩⟩
def whileN (mt : MT) (body : MS) (D : EndsW) : Nat → Env → Store → Prop
  | 0, _, _ => False
  | n + 1, σ, S => mt σ S (fun b S1 => br b (body { D with nx := whileN mt body D n, ct := whileN mt body D n, bk := D.nx } σ S1) (D.nx σ S1)) (fun x S' => D.ex x σ S')
def mWhile (mt : MT) (body : MS) : MS := fun D σ S => ∃ n, whileN mt body D n σ S
theorem js_while {c : Expr} {body : List Stmt} {mt : MT} {mb : MS} {pos : Pos} (hp : PassesOwn (model X.prog X.w) X.A X.env X.xe) (hc : JT X E c mt) (hb : JSs X E body mb) : JS X E (.While c body [] pos) (mWhile mt mb) := PS.weak (ps_while hp hc hb) fun σv H D q => by
  obtain ⟨P, S, σ, Dw, W, r, m, d⟩ := q
  obtain ⟨n, m⟩ := m
  refine ⟨fun k σv2 H2 => ∃ σ2 S2, Wd X.K P S2 H2 ∧ RpS X.K P S2 H2 σ2 σv2 ∧ Evo S H S2 H2 ∧ whileN mt mb Dw k σ2 S2, ⟨n, σ, S, W, r, Evo.refl, m⟩, ?_⟩
  rintro k σv2 H2 ⟨σ2, S2, W2, r2, e2, f⟩
  cases k with
  | zero => exact f.elim
  | succ k =>
    unfold whileN at f
    refine ⟨P, S2, σ2, _, _, W2, r2, f, fun b H3 S3 W3 e3 m3 => ?_, (d.ex.after e2).at r2⟩
    cases b with
    | true =>
      refine ⟨fun σ' H' => ∃ σ3 S3, Wd X.K P S3 H' ∧ RpS X.K P S3 H' σ3 σ' ∧ Evo S H S3 H' ∧ whileN mt mb Dw k σ3 S3, fun σ' H' hN => ⟨k, Nat.lt_succ_self k, hN⟩, ?_⟩
      have e4 := e2.trans e3
      exact ⟨P, S3, σ2, _, W3, r2.mono e3, m3, ⟨fun σv5 H5 σ5 S5 W5 r5 e5 q5 => ⟨σ5, S5, W5, r5, e4.trans e5, q5⟩, d.rt.after e4, d.nx.after e4, fun σv5 H5 σ5 S5 W5 r5 e5 q5 => ⟨σ5, S5, W5, r5, e4.trans e5, q5⟩, d.ex.after e4⟩⟩
    | false => exact d.nx σv2 H3 σ2 S3 W3 (r2.mono e3) (e2.trans e3) m3
end
end Dn

/-! Dn: clauses with and without a name, in one try. -/
namespace Dn
open PySem PySem.Spec PyProof.Rows L2
/-- what a clause asks for, once its class is met: the ends, the exception, its class, its dict, slots, heap -/
abbrev Ask := Ends → Addr → Value → Option Addr → L2.St → Hp → Prop
/-- of the clauses, one behind the other -/
def askAll (K : Frg) (W0 : WX) (D : Ends) : List (Value × Ask) → WX
  | [] => W0
  | (c, u) :: more => fun kx dx sv hp =>
    ∃ b, PySem.W.exmOne K kx c = some b ∧ (b = true → ∀ ea, hp ea = none → u D ea kx dx sv hp) ∧ (b = false → askAll K W0 D more kx dx sv hp)
/-- the ends of a suite whose clause has a name in slot i -/
def endsOff (D : Ends) (i : Nat) : Ends where
  nx := fun sv hp => D.nx (sv.set i none) hp
  rt := D.rt
  bk := fun sv hp => D.bk (sv.set i none) hp
  ct := fun sv hp => D.ct (sv.set i none) hp
/-- clauses of both kinds -/
inductive Mix (X : Cx) : List ExceptHandler → List (Value × Ask) → Prop
  | nil : Mix X [] []
  | bare {nm : Str} {c : Value} {ts : Addr → Value → Option Addr → TS} {fst : Stmt} {su : List Stmt} {q1 q2 : Pos} {hl : List ExceptHandler} {ul : List (Value × Ask)} (gc : Names X nm c)
      (gs : ∀ (ea : Addr) (ob : Obj) (kx : Value) (dx : Option Addr) (pl : List (Addr × Obj)), Zc kx dx ob → (∃ fv, ob.data = .fields fv) → PSs (X.suite ea ((ea, ob) :: pl)) (fst :: su) (ts ea kx dx)) (more : Mix X hl ul) :
      Mix X (.ExceptHandler (some (.Name nm q1)) none (fst :: su) q2 :: hl) ((c, fun D ea kx dx sv hp => ts ea kx dx D sv hp) :: ul)
  | named {nm vn : Str} {i : Nat} {c : Value} {ts : Addr → Value → Option Addr → TS} {fst : Stmt} {su : List Stmt} {q1 q2 : Pos} {hl : List ExceptHandler} {ul : List (Value × Ask)} (gc : Names X nm c) (gi : X.N[i]? = some vn) (gl : X.env.kindOf vn = some .local)
      (gs : ∀ (ea : Addr) (ob : Obj) (kx : Value) (dx : Option Addr) (pl : List (Addr × Obj)), Zc kx dx ob → (∃ fv, ob.data = .fields fv) → PSs (X.suite ea ((ea, ob) :: pl)) (fst :: su) (ts ea kx dx)) (more : Mix X hl ul) :
      Mix X (.ExceptHandler (some (.Name nm q1)) (some vn) (fst :: su) q2 :: hl) ((c, fun D ea kx dx sv hp => ts ea kx dx (endsOff D i) (sv.set i (some (.ref ea))) hp) :: ul)
section
variable {X : Cx} {bd : List Stmt} {hl : List ExceptHandler} {ul : List (Value × Ask)} {q0 : Pos} {tb : WX → TS} {W0 : WX}
theorem ps_try_mix {h1 : ExceptHandler} (hst : X.stack = X.env :: X.outer) (hfr0 : X.env.frame = some X.env.locals) (nd : X.N.Nodup) (tk : Takes X W0)
    (hbody : ∀ (W : WX) (pl : List (Addr × Obj)) (xw : Value → Shared → Prop), Takes (X.tr pl xw) W → PassesOwn (model X.prog X.w) X.A X.env xw → PSs (X.tr pl xw) bd (tb W))
    (mx : Mix X (h1 :: hl) ul) : PS X (.Try bd (h1 :: hl) [] [] q0) (fun D sv hp => tb (askAll X.K W0 D ul) D sv hp) := by
  refine ⟨fun pins s0 sv hp D inv hyp => ?_⟩
  have okx := inv.ok
  have fr2 : X.A.frames = some (X.env :: X.outer) := by rw [okx.frames, hst]
  refine wpAny_Try_except ?_
  refine wpAny_mono ((hbody (askAll X.K W0 D ul) (X.pn ++ pins) (fun er sa => wpAny (model X.prog X.w) X.A (noteFrame er X.env) (fun _ sb => wpAny (model X.prog X.w) X.A (setFlight er none) (fun _ sc =>
    wpAny (model X.prog X.w) X.A (handleBy er X.env (h1 :: hl)) (SP X pins D) X.xe sc) X.xe sb) X.xe sa) (fun uu sd got => ?_) PassesOwn.looking).run [] s0 sv hp D (inv.toTry _) hyp) (fun fl se hsp => ?_) (fun er se he => he)
  · obtain ⟨ea, B, sI, pins2, sv2, hp2, kx, dx, rfl, inv2, nb, up1, sky1, nea, hos, hag, asked⟩ := got
    have J : Inv X pins sv2 hp2 sI := inv2.ofTry okx
    have sky2 : Sky B (X.env :: X.outer) ea (Zc kx dx) X.env.locals sd.heap := by rw [← hst]; exact sky1
    show wpAny (model X.prog X.w) X.A (noteFrame (.ref ea) X.env) _ _ _
    refine Sky.land Zc.steady fr2 hfr0 sky2 fun hA flA upA => ?_
    have JA : Inv X pins sv2 hp2 { sd with heap := hA } := J.landed nb flA.1 (up1.trans upA) hos hag
    obtain ⟨obA, fvA, getA, zcA, datA⟩ := flA.there
    have apart : ∀ {hh : Heap} {o : Obj} {fv : Array Value}, hh.FunFrames B (X.env :: X.outer) → hh.get? ea = some o → o.data = .fields fv → ea ∉ frs (X.env :: X.outer) := fun {hh o fv} ff e1 e2 mem => by
      obtain ⟨_, o2, e3, nope⟩ := ff.mem mem
      rw [e1] at e3
      cases e3
      exact nope _ e2
    have nfrs := apart flA.2.2.1 getA datA
    have neL : ea ≠ X.env.locals := fun z => nfrs (List.mem_filterMap.mpr ⟨X.env, List.mem_cons_self, by rw [hfr0, z]⟩)
    have neF : ea ∉ X.fs := fun mem => by
      obtain ⟨en, hen, q⟩ := List.mem_filterMap.mp mem
      exact nfrs (List.mem_filterMap.mpr ⟨en, List.mem_cons_of_mem _ hen, q⟩)
    have SA := JA.suite getA datA nea neL neF
    have LT : PySem.W.Looks (model X.prog X.w) hA (typeOf (.ref ea)) kx := fun A' Q' E' s' keep q => wpAny_typeOf_ref (keep _ _ getA) (by rw [zcA.1]; exact q)
    have seen : ∀ {nm : Str} {c : Value} {q1 : Pos} {Q E : Value → Shared → Prop}, Names X nm c → Q c { sd with heap := hA } → wpAny (model X.prog X.w) (X.A.mark (some (.ref ea))) (eval (.Name nm q1) X.env) Q E { sd with heap := hA } := fun {nm c q1 Q E} hc q => by
      obtain ⟨hg, hdbg, hm | ⟨hm, hv, hnn⟩⟩ := hc
      · exact ld_glob (X := X.suite ea ((ea, obA) :: (X.pn ++ pins))) SA hg hm q hdbg
      · exact ld_blt (X := X.suite ea ((ea, obA) :: (X.pn ++ pins))) SA hg hm hv q hnn hdbg
    have all : ∀ {hs2 : List ExceptHandler} {us2 : List (Value × Ask)}, Mix X hs2 us2 → askAll X.K W0 D us2 kx dx sv2 hp2 → wpAny (model X.prog X.w) X.A (handleBy (.ref ea) X.env hs2) (SP X pins D) X.xe { sd with heap := hA } := by
      intro hs2 us2 mm
      induction mm with
      | nil =>
        intro w2
        refine wpAny_handleBy_nil ?_
        obtain ⟨k1, k2, k3, ob2, fv2, T2, oT2, ts2, get2, zc2, dat2, at1, rest⟩ := id flA
        unfold PySem.passOn
        refine wpAny_bind (wpAny_field get2 dat2 at1 ?_)
        rw [if_neg (show ¬ ((Value.ref T2 == Value.none) = true) from by simp)]
        have last : wpAny (model X.prog X.w) X.A (setFlight (.ref ea) X.env.frame) (fun _ sg => wpAny (model X.prog X.w) X.A (throw (.ref ea) : Sem Flow) (SP X pins D) X.xe sg) X.xe { sd with heap := hA } := by
          rw [hfr0]
          refine HandSPX.setFlight_upZ flA fun hB flB upB => wpAny_throw (tk _ _ ?_)
          exact ⟨ea, B, sI, pins, sv2, hp2, kx, dx, rfl, J, nb, (up1.trans upA).trans upB, .inr (.inr (by rw [hst]; exact flB)), nea, hos, hag, w2⟩
        first
          | exact wpAny_bind (wpAny_pure (wpAny_bind last))
          | exact wpAny_bind last
      | @bare nm c ts fst su q1 q2 hl2 ul2 gc gs more ih =>
        intro w2
        obtain ⟨b, hb, yes, no⟩ := w2
        refine wpAny_handleBy_cons (codeAny_handlers_test ?_) (fun q => nomatch q)
        refine seen gc ((PySem.W.exm_one (M := model X.prog X.w) JA.kIn LT hb).here ?_)
        cases b with
        | true =>
          refine codeAny_handlers_suite ?_
          refine HandSPX.lands_againZ flA fun hB flB upB => ?_
          have JB : Inv X pins sv2 hp2 { sd with heap := hB } := J.landed nb flB.1 ((up1.trans upA).trans upB) hos hag
          obtain ⟨obB, fvB, getB, zcB, datB⟩ := flB.there
          have SB := JB.suite getB datB nea neL neF
          refine wpAny_mono ((gs ea obB kx dx (X.pn ++ pins) zcB ⟨_, datB⟩).run [] _ _ hp2 _ SB (yes rfl ea nea)) (fun f3 s3 hs3 => ?_) (fun _ _ z => False.elim z)
          cases f3 with
          | next => obtain ⟨sv3, hp3, S3, q3⟩ := hs3; exact ⟨_, _, S3.unsuite okx, q3⟩
          | brk => obtain ⟨sv3, hp3, S3, q3⟩ := hs3; exact ⟨_, _, S3.unsuite okx, q3⟩
          | cont => obtain ⟨sv3, hp3, S3, q3⟩ := hs3; exact ⟨_, _, S3.unsuite okx, q3⟩
          | ret u3 => obtain ⟨v3, sv3, hp3, S3, r3, q3⟩ := hs3; exact ⟨_, _, _, S3.unsuite okx, r3, q3⟩
        | false =>
          show wpAny _ X.A (handleBy (.ref ea) X.env hl2) _ _ _
          exact ih (no rfl)
      | @named nm vn i c ts fst su q1 q2 hl2 ul2 gc gi gl gs more ih =>
        intro w2
        obtain ⟨b, hb, yes, no⟩ := w2
        refine wpAny_handleBy_cons (codeAny_handlers_test ?_) (fun q => nomatch q)
        refine seen gc ((PySem.W.exm_one (M := model X.prog X.w) JA.kIn LT hb).here ?_)
        cases b with
        | true =>
          refine codeAny_handlers_suite_as ?_
          refine HandSPX.lands_againZ flA fun hB flB upB => ?_
          have JB : Inv X pins sv2 hp2 { sd with heap := hB } := J.landed nb flB.1 ((up1.trans upA).trans upB) hos hag
          obtain ⟨obB, fvB, getB, zcB, datB⟩ := flB.there
          have SB := JB.suite getB datB nea neL neF
          refine store_ok (X := X.suite ea ((ea, obB) :: (X.pn ++ pins))) (v := .ref ea) SB nd gi (show Loc X.env.scope vn from .inl gl) rfl (fun sC SC => ?_) (.inr gl)
          refine wpAny_mono ((gs ea obB kx dx (X.pn ++ pins) zcB ⟨_, datB⟩).run [] sC _ hp2 _ SC (yes rfl ea nea)) (fun f3 s3 hs3 => ?_) (fun _ _ z => False.elim z)
          have off : ∀ {sv3 : L2.St} {hp3 : Hp} {Q3 : Shared → Prop}, Inv (X.suite ea ((ea, obB) :: (X.pn ++ pins))) [] sv3 hp3 s3 → (∀ s7, Inv X pins (sv3.set i none) hp3 s7 → Q3 s7) →
              wpAny (model X.prog X.w) X.A (do bindName X.env vn .none; unbindBehindTheSuite X.env vn q2) (fun _ s7 => Q3 s7) X.xe s3 := fun {sv3 hp3 Q3} S3 q3 => gone_ok (S3.unsuite okx) nd gi gl q3
          cases f3 with
          | next => obtain ⟨sv3, hp3, S3, q3⟩ := hs3; exact off S3 fun s7 J7 => ⟨_, _, J7, q3⟩
          | brk => obtain ⟨sv3, hp3, S3, q3⟩ := hs3; exact off S3 fun s7 J7 => ⟨_, _, J7, q3⟩
          | cont => obtain ⟨sv3, hp3, S3, q3⟩ := hs3; exact off S3 fun s7 J7 => ⟨_, _, J7, q3⟩
          | ret u3 => obtain ⟨v3, sv3, hp3, S3, r3, q3⟩ := hs3; exact off S3 fun s7 J7 => ⟨_, _, _, J7, r3, q3⟩
        | false =>
          show wpAny _ X.A (handleBy (.ref ea) X.env hl2) _ _ _
          exact ih (no rfl)
    exact all mx asked
  · cases fl with
    | next => obtain ⟨sv3, hp3, J3, q3⟩ := hsp; exact wpAny_execs_nil ⟨sv3, hp3, J3.ofTry okx, q3⟩
    | brk => obtain ⟨sv3, hp3, J3, q3⟩ := hsp; exact ⟨sv3, hp3, J3.ofTry okx, q3⟩
    | cont => obtain ⟨sv3, hp3, J3, q3⟩ := hsp; exact ⟨sv3, hp3, J3.ofTry okx, q3⟩
    | ret u3 => obtain ⟨v3, sv3, hp3, J3, r3, q3⟩ := hsp; exact ⟨v3, sv3, hp3, J3.ofTry okx, r3, q3⟩
end
end Dn

namespace Dn
open PySem PySem.Spec PyProof.Rows L2
/-! ### a def -/
def startW (N : Nat) (ws : List Dt) : Env := ws.map some ++ List.replicate (N - ws.length) none
theorem start_rp {K : Frg} {P : Hid} {S : Store} {H : Hp} {N : List Str} {ws : List Dt} {vs : List V} (r : RpL K P S H ws vs) : RpS K P S H (startW N.length ws) (L2.start N vs) := by
  unfold startW L2.start
  refine ⟨by simp [r.length], fun i w e => ?_⟩
  by_cases hi : i < ws.length
  · rw [List.getElem?_append_left (by simpa using hi), List.getElem?_map] at e
    cases q : ws[i]? with
    | none => rw [q] at e; cases e
    | some z =>
      rw [q] at e
      cases e
      obtain ⟨v, ev, rv⟩ := r.get q
      refine ⟨v, ?_, rv⟩
      rw [List.getElem?_append_left (by rw [List.length_map, ← r.length]; exact hi), List.getElem?_map, ev]
      rfl
  · rw [List.getElem?_append_right (by simpa using hi)] at e
    have := List.mem_of_getElem? e
    rw [List.mem_replicate] at this
    cases this.2
section
variable {P : Program} {w : World} {K : PySem.W.Frag} {mg : Str → Option Value} {base : Heap}
theorem ok_w {x qual : Str} {st : Stmt} {f : Addr} {fd : FuncData} {N ps : List Str} {k n : Nat} (F : L2.Fun K x qual st f fd) (Sc : FnScope N ps (defScope st)) (G : Fw) (hn : ps.length = n)
    (hbody : ∀ (cdv : Value) (A : Around) (outer : List PySem.Env) (s : Shared) (H : Hp) (E : XK), Room k (A.deeper (envOfC qual (defScope st) s.heap.objs.size f cdv)) →
      ∃ m, JSs (cxOf (L2.CX P w) P w K mg base N qual (defScope st) f cdv A outer s H E) (fun c d _ H' => E c d H') (defBody st) m ∧
        ∀ (ws : List Dt) (S : Store) (Q : Dt → Store → Prop) (Ex : Exn → Store → Prop), ws.length = n → G ws S Q Ex →
          m ⟨fun _ S' => clo Q .non S', clo Q, fun _ _ => False, fun _ _ => False, fun x _ S' => clX Ex x S'⟩ (startW N.length ws) S) :
    FnOk P w K mg base (L2.CX P w) (k + 1) f fd ps (spOf K n G) := by
  refine F.okX Sc (fun vs H Q E h => by rw [hn]; exact h.1) (fun cdv A outer s H vs Q E hr h => ?_)
  obtain ⟨m, hm, hg⟩ := hbody cdv A outer s H E hr
  obtain ⟨hl, P0, S, ws, Qw, Ew, W, rl, g, nq, nx⟩ := h
  refine ⟨_, hm, P0, S, startW N.length ws, _, W, start_rp rl, hg ws S Qw Ew (by rw [rl.length]; exact hl) g, ⟨fun σv' H' σ' S' W' r' e' q' => ?_, nq.clo, fun _ _ _ _ _ _ _ q => q.elim, fun _ _ _ _ _ _ _ q => q.elim, fun c d σv' H' x σ' S' W' rx r' e' q' => nx.clo c d H' x S' W' rx e' q'⟩⟩
  exact nq.clo .non H' .non S' W' rpNon e' q'
theorem FnOk.impW {k n : Nat} {f : Addr} {fd : FuncData} {ps : List Str} {G G' : Fw} {CX : CXT} (F : FnOk P w K mg base CX k f fd ps (spOf K n G)) (h : ∀ ws S Q Ex, ws.length = n → G' ws S Q Ex → G ws S Q Ex) : FnOk P w K mg base CX k f fd ps (spOf K n G') :=
  F.imp fun vs H Q E ⟨hl, P0, S, ws, Qw, Ew, W, rl, g, nq, nx⟩ => ⟨hl, P0, S, ws, Qw, Ew, W, rl, h ws S Qw Ew (by rw [rl.length]; exact hl) g, nq, nx⟩
end
/-! ### raise -/
section
variable {X : Cx} {E : WX}
abbrev MR := Env → Store → (Exn → Store → Prop) → (Exn → Store → Prop) → Prop
def rdR (K : Frg) (E : WX) (m : MR) : L2.St → Hp → XK → Prop := fun σv H Qx => ∃ P S σ Q Ex, Wd K P S H ∧ RpS K P S H σ σv ∧ m σ S Q Ex ∧ NX K P S H Q Qx ∧ NX K P S H Ex (fun c d H' => E c d σv H')
def JR (X : Cx) (E : WX) (e : Expr) (m : MR) : Prop := PMk X e (rdR X.K E m)
def mRaise (m : MR) : MS := fun D σ S => m σ S (fun x S' => D.ex x σ S') (fun x S' => D.ex x σ S')
theorem js_raise {e : Expr} {m : MR} {pos : Pos} (hc : X.calm = true) (tk : Takes X E) (h : JR X E e m) : JS X E (.Raise (some e) none pos) (mRaise m) := PS.weak (ps_raise hc tk h) fun σv H D q => by
  obtain ⟨P, S, σ, Dw, W, r, m, d⟩ := q
  exact ⟨P, S, σ, _, _, W, r, m, d.ex.at r, d.ex.at r⟩
/-- C(), C an own exception class without own __init__ -/
theorem pmk_own0 {C : Addr} {bmB : List Value} {B newId initId : String} {x : Str} {p pos : Pos} (F : ExcBaseFacts B newId initId bmB) (q : PySem.W.excIn X.K C bmB newId = true) (gC : X.mg x = some (.ref C)) (kC : PySem.W.keepIn X.K (.ref C) = true) (r : Raises X (.ref C)) (hg : Gl X x)
    (hdb : (x == ("__debug__" : Str)) = false := by decide) : PMk X (.Call (.Name x p) [] [] pos) (fun _ H Q => Q (.ref C) none H) := by
  intro pins s σ H Q I h
  refine wpAny_Call_Name_kw (ld_glob I hg gC ?_ hdb)
  refine PySem.W.callWith_K0 I.kIn kC ?_
  obtain ⟨bm, N, nm, qn, bs, hdct, sn, sub, ab, col, dd, k0, k1, k2, k3, k5, mN, hC, hN, hni, T⟩ := exc_obj I.kIn q
  refine wpAny_call_exc_subT F T hC hN hni (fun h' e hm => ?_) (by show 0 ≤ sizeLine; rw [sizeLine_eq]; omega)
  exact mk_of I hm r h (I.hok.gone hm.new)
def mExc0 (C : Addr) : MR := fun _ S Q _ => Q ⟨.ref C, none⟩ S
theorem jr_own0 {C : Addr} {e : Expr} (h : PMk X e (fun _ H Q => Q (.ref C) none H)) : JR X E e (mExc0 C) := fun pins s σ H Q I q => by
  refine h pins s σ H Q I ?_
  obtain ⟨P, S, σ, Qw, Ex, W, r, m, nq, nx⟩ := q
  exact nq (.ref C) none H ⟨.ref C, none⟩ S W ⟨rfl, rfl⟩ Evo.refl m
/-- what the walk asks of an exception class without fields: it stands at C; what it makes may be raised -/
structure Exc0 (K : Frg) (mg : Str → Option Value) (x : Str) (C : Addr) : Prop where
  gC : mg x = some (.ref C)
  xC : PySem.W.excIn K C [.type "ValueError", .type "Exception", .type "BaseException", .type "object"] "ValueError.__new__" = true
  kC : PySem.W.keepIn K (.ref C) = true
  bC : PySem.W.subIn K (.ref C) (.type "BaseException") = some true
  tC : PySem.W.typeIn K (.ref C) = some (.type "type")
theorem jr_exc0 {x : Str} {C : Addr} {p pos : Pos} (T : Exc0 X.K X.mg x C) (hg : Gl X x) (hdb : (x == ("__debug__" : Str)) = false := by decide) : JR X E (.Call (.Name x p) [] [] pos) (mExc0 C) :=
  jr_own0 (pmk_own0 PySem.F.excBase_ValueError T.xC T.gC T.kC (raises_own T.bC T.tC) hg hdb)
/-! ### try -/
def handleW (K : Frg) : List (Value × (Exn → MS)) → Exn → MS
  | [], x => fun D σ S => D.ex x σ S
  | (c, ms) :: r, x => fun D σ S => ∃ b, PySem.W.exmOne K x.cls c = some b ∧ (b = true → ms x { D with ex := fun _ _ _ => False } σ S) ∧ (b = false → handleW K r x D σ S)
def mTry (K : Frg) (mb : MS) (hs : List (Value × (Exn → MS))) : MS := fun D σ S => mb { D with ex := fun x σ' S' => handleW K hs x D σ' S' } σ S
theorem RpS.forget {K : Frg} {P : Hid} {S : Store} {H : Hp} {σ : Env} {σv : L2.St} (h : RpS K P S H σ σv) (i : Nat) : RpS K P S H (σ.set i none) (σv.set i none) := by
  refine ⟨by rw [List.length_set, List.length_set]; exact h.1, fun j z q => ?_⟩
  by_cases e : i = j
  · subst e
    by_cases l : i < σ.length
    · rw [List.getElem?_set_self l] at q; cases q
    · rw [List.getElem?_eq_none (by rw [List.length_set]; omega)] at q; cases q
  · rw [List.getElem?_set_ne e] at q ⊢
    exact h.2 j z q
/-- a clause with a name: in slot i the exception with its fields -/
def mAs (i : Nat) (ms : Addr → Value → Option Addr → MS) : Exn → MS := fun x D σ S => ∃ ns ws, x.fs = some (ns, ws) ∧
  ∀ a dd, ms a x.cls (some dd) ⟨fun σ' S' => D.nx (σ'.set i none) S', D.rt, fun σ' S' => D.bk (σ'.set i none) S', fun σ' S' => D.ct (σ'.set i none) S', D.ex⟩ (σ.set i (some (.exn a dd ns ws))) S
abbrev NoX : WX := fun _ _ _ _ => False
inductive JH (X : Cx) : List ExceptHandler → List (Value × (Exn → MS)) → List (Value × Ask) → Prop
  | nil : JH X [] [] []
  | cons {x : Str} {c : Value} {ms : MS} {b₀ : Stmt} {suite : List Stmt} {np pos' : Pos} {hds : List ExceptHandler} {l : List (Value × (Exn → MS))} {t : List (Value × Ask)} (hc : Names X x c)
      (hsu : ∀ (a : Addr) (oe : Obj) (pn : List (Addr × Obj)), JSs (X.suite a ((a, oe) :: pn)) NoX (b₀ :: suite) ms) (r : JH X hds l t) :
      JH X (.ExceptHandler (some (.Name x np)) none (b₀ :: suite) pos' :: hds) ((c, fun _ => ms) :: l) ((c, fun D _ _ _ σv H => rdS X.K NoX ms D σv H) :: t)
  | named {x n : Str} {i : Nat} {c : Value} {ms : Addr → Value → Option Addr → MS} {b₀ : Stmt} {suite : List Stmt} {np pos' : Pos} {hds : List ExceptHandler} {l : List (Value × (Exn → MS))} {t : List (Value × Ask)} (hc : Names X x c) (gi : X.N[i]? = some n) (gl : X.env.kindOf n = some .local)
      (hsu : ∀ (a : Addr) (oe : Obj) (cls : Value) (d : Option Addr) (pn : List (Addr × Obj)), Zc cls d oe → (∃ fv, oe.data = .fields fv) → JSs (X.suite a ((a, oe) :: pn)) NoX (b₀ :: suite) (ms a cls d)) (r : JH X hds l t) :
      JH X (.ExceptHandler (some (.Name x np)) (some n) (b₀ :: suite) pos' :: hds) ((c, mAs i ms) :: l) ((c, fun D ea kx dx σv H => rdS X.K NoX (ms ea kx dx) (endsOff D i) (σv.set i (some (.ref ea))) H) :: t)
theorem JH.ok {hds : List ExceptHandler} {l : List (Value × (Exn → MS))} {t : List (Value × Ask)} (h : JH X hds l t) : Mix X hds t := by
  induction h with
  | nil => exact .nil
  | @cons x c ms b₀ suite np pos' hds l t hc hsu r ih => exact .bare (ts := fun _ _ _ => rdS X.K NoX ms) hc (fun a oe cls d pn _ _ => hsu a oe pn) ih
  | @named x n i c ms b₀ suite np pos' hds l t hc gi gl hsu r ih => exact .named (ts := fun ea kx dx => rdS X.K NoX (ms ea kx dx)) hc gi gl (fun a oe cls d pn z1 z2 => hsu a oe cls d pn z1 z2) ih
theorem JH.wish {hds : List ExceptHandler} {l : List (Value × (Exn → MS))} {t : List (Value × Ask)} (h : JH X hds l t) {P : Hid} {S : Store} {H : Hp} {σ : Env} {σv : L2.St} {Dw : EndsW} {D : Ends} {x : Exn} {cls : Value} {d : Option Addr}
    (W : Wd X.K P S H) (r : RpS X.K P S H σ σv) (rx : RpX X.K P S H x cls d) (dk : DOk X.K P S H Dw D E) (q : handleW X.K l x Dw σ S) : askAll X.K E D t cls d σv H := by
  induction h with
  | nil => exact dk.ex cls d σv H x σ S W rx r Evo.refl q
  | cons hc hsu r' ih =>
    obtain ⟨b, hb, h1, h2⟩ := q
    refine ⟨b, by rw [rx.1]; exact hb, fun e a _ => ?_, fun e => ih (h2 e)⟩
    exact ⟨P, S, σ, _, W, r, h1 e, ⟨dk.nx, dk.rt, dk.bk, dk.ct, fun _ _ _ _ _ _ _ _ _ _ _ q => q.elim⟩⟩
  | @named x1 n i c ms b₀ suite np pos' hds l t hc gi gl hsu r' ih =>
    obtain ⟨b, hb, h1, h2⟩ := q
    refine ⟨b, by rw [rx.1]; exact hb, fun e a _ => ?_, fun e => ih (h2 e)⟩
    obtain ⟨ns, ws, ef, m⟩ := h1 e
    obtain ⟨c1, fs⟩ := x
    cases ef
    obtain ⟨e1, dd, xs, e2, f, z, rl⟩ := rx
    cases e1
    subst e2
    exact ⟨P, S, _, _, W, r.set (w := .exn a dd ns ws) (v := .ref a) (by unfold Rp; exact ⟨xs, rfl, f, z, rl⟩), m a dd,
      ⟨fun σv' H' σ' S' W' r' e' q' => dk.nx _ H' _ S' W' (r'.forget i) e' q', dk.rt, fun σv' H' σ' S' W' r' e' q' => dk.bk _ H' _ S' W' (r'.forget i) e' q', fun σv' H' σ' S' W' r' e' q' => dk.ct _ H' _ S' W' (r'.forget i) e' q',
        fun _ _ _ _ _ _ _ _ _ _ _ q => q.elim⟩⟩
theorem js_try {body : List Stmt} {h0 : ExceptHandler} {hds : List ExceptHandler} {mb : MS} {l : List (Value × (Exn → MS))} {t : List (Value × Ask)} {pos : Pos} (hs : X.stack = X.env :: X.outer) (hf : X.env.frame = some X.env.locals) (nd : X.N.Nodup) (tk : Takes X E)
    (hb : ∀ (W : WX) (pn : List (Addr × Obj)) (xe : Value → Shared → Prop), Takes (X.tr pn xe) W → PassesOwn (model X.prog X.w) X.A X.env xe → JSs (X.tr pn xe) W body mb) (hh : JH X (h0 :: hds) l t) : JS X E (.Try body (h0 :: hds) [] [] pos) (mTry X.K mb l) :=
  PS.weak (ps_try_mix (tb := fun W => rdS X.K W mb) hs hf nd tk (fun W pn xe h1 h2 => hb W pn xe h1 h2) hh.ok) fun σv H D q => by
    obtain ⟨P, S, σ, Dw, W, r, m, d⟩ := q
    refine ⟨P, S, σ, _, W, r, m, ⟨d.nx, d.rt, d.bk, d.ct, fun cls dd σv' H' x σ' S' W' rx r' e' q' => ?_⟩⟩
    exact hh.wish W' r' rx (d.after e') q'
/-- err.f in the suite of a clause with a name -/
def mXf (a : Addr) (cls : Value) (d : Option Addr) (C : Addr) (f : Str) (me : ME) : ME := fun σ S Q Ex => me σ S (fun w S1 => match w with
  | .exn a' dd ns ws => a' = a ∧ cls = .ref C ∧ d = some dd ∧ ∃ u, (ns.zip ws).lookup f = some u ∧ Q u S1
  | _ => False) Ex
theorem zip_at {K : Frg} {P : Hid} {S : Store} {H : Hp} {f : Str} {u : Dt} : ∀ {ns : List Str} {ws : List Dt} {xs : List V}, RpL K P S H ws xs → (ns.zip ws).lookup f = some u → ∃ v, (ns.zip xs).lookup f = some v ∧ Rp K P S H u v
  | [], ws, xs, r, h => by cases h
  | n :: ns, [], xs, r, h => by cases h
  | n :: ns, w :: ws, xs, r, h => by
    unfold RpL at r
    obtain ⟨v, rr, rfl, r1, r2⟩ := r
    rw [List.zip_cons_cons, List.lookup_cons] at h ⊢
    cases e : f == n with
    | true =>
      rw [e] at h
      cases h
      exact ⟨v, rfl, r1⟩
    | false =>
      rw [e] at h
      exact zip_at r2 h
theorem je_xf {a C : Addr} {oe : Obj} {cls : Value} {d : Option Addr} {pn : List (Addr × Obj)} {e : Expr} {me : ME} {pos : Pos} {n : Str} {E : WX} (T : XfC X.K C) (hno : PySem.W.findIn X.K (.ref C) n = some none) (hz : Zc cls d oe) (hf : ∃ fv, oe.data = .fields fv)
    (he : JE (X.suite a ((a, oe) :: pn)) E e me) (hb : attributeBase e n X.env (eval e X.env) = eval e X.env := by rfl) : JE (X.suite a ((a, oe) :: pn)) E (.Attribute e n pos) (mXf a cls d C n me) :=
  PE.weak (pe_xf T hno hz hf he hb) fun σv H Qv q => by
    obtain ⟨P, S, σ, Q, Ex, W, r, m, nq, nx⟩ := q
    refine ⟨P, S, σ, _, Ex, W, r, m, fun v H' w S' W' r' e' q' => ?_, nx⟩
    cases w with
    | exn a' dd ns ws =>
      obtain ⟨e1, e2, e3, u, l, q⟩ := (q' : a' = a ∧ cls = .ref C ∧ d = some dd ∧ ∃ u, (ns.zip ws).lookup n = some u ∧ Q u S')
      unfold Rp at r'
      obtain ⟨xs, ev, f, z, rl⟩ := r'
      obtain ⟨v2, l2, rv⟩ := zip_at rl l
      exact ⟨by rw [ev, e1], e2, dd, _, v2, e3, f.1, l2, nq v2 H' u S' W' rv e' q⟩
    | _ => exact (show False from q').elim
/-- an own exception class whose __init__ keeps one field -/
structure Exc1 (P : Program) (w : World) (K : Frg) (mg : Str → Option Value) (base : Heap) (x f : Str) (C : Addr) : Prop where
  gC : mg x = some (.ref C)
  oC : OexC K C
  fC : XfC K C
  no : PySem.W.findIn K (.ref C) f = some none
  ini : ∃ (fI : Addr) (fd : FuncData), PySem.W.findIn K (.ref C) "__init__" = some (some (.ref fI)) ∧ PySem.W.typeIn K (.ref fI) = some (.type "function") ∧ Binds K fd ["self", f] [] ∧
    FnOk P w K mg base (L2.CX P w) 1 fI fd ["self", f] (fun vs H Q _ => ∃ a y, vs = [.ref a, y] ∧ H a = some (exo a C none) ∧ ∀ d, H d = none → d ≠ a → Q .non (upd (upd H d (exd d [(f, y)])) a (exo a C (some d))))
def mExc1 (C : Addr) (f : Str) (me : ME) : MR := fun σ S Q Ex => me σ S (fun w S1 => Q ⟨.ref C, some ([f], [w])⟩ S1) Ex
theorem cx_none {P : Program} {w : World} {fs : List PySem.Env} {H : Hp} {s : Shared} {e : Value} {s' : Shared} (h : L2.CX P w fs H s (fun _ _ _ => False) e s') : False := by
  obtain ⟨_, _, _, _, _, _, _, _, _, _, _, _, z⟩ := h
  exact z
theorem jr_exc1 {x f : Str} {C : Addr} {p pos : Pos} {e : Expr} {me : ME} (T : Exc1 X.prog X.w X.K X.mg X.base x f C) (hr : Room 2 X.A) (hg : Gl X x) (he : JE X E e me)
    (hdb : (x == ("__debug__" : Str)) = false := by decide) (hs : starEach [e] X.env = (false, eval e X.env) :: starEach [] X.env := by rfl) (hpl : (backTo pos (starEach [] X.env)).any (·.1) = false := by rfl) :
    JR X E (.Call (.Name x p) [e] [] pos) (mExc1 C f me) := fun pins s σv H Qx I q => by
  obtain ⟨fI, fd, iC, tI, hb, F1⟩ := T.ini
  refine pmk_oex T.oC iC tI F1 hr hb (dvs := []) .nil (fun _ _ _ _ er s' _ c => (cx_none c).elim) hg T.gC (ja_cons he ja_nil hs) hdb hs hpl pins s σv H Qx I ?_
  obtain ⟨P, S, σ, Q, Ex, W, r, m, nq, nx⟩ := q
  refine ⟨P, S, σ, fun ws S1 => match ws with
    | [w] => Q ⟨.ref C, some ([f], [w])⟩ S1
    | _ => False, Ex, W, r, m, ?_, nx⟩
  intro vs H1 ws S1 W1 rl e1 q1
  match ws, q1 with
  | [w], q =>
    unfold RpL at rl
    obtain ⟨v, rr, rfl, rv, rl⟩ := rl
    unfold RpL at rl
    subst rl
    refine ⟨by show 1 ≤ 1000; decide, fun a ha => ⟨a, v, rfl, upd_same, fun d hd nd => ⟨rfl, d, [(f, v)], upd_same, by rw [upd_ne nd, upd_same], by rw [upd_ne nd] at hd; exact hd, ?_⟩⟩⟩
    have hd1 : H1 d = none := by rw [upd_ne nd] at hd; exact hd
    have eh : upd (L2.del (upd (upd (upd H1 a (exo a C none)) d (exd d [(f, v)])) a (exo a C (some d))) a) d (.xd [(f, v)]) = upd H1 d (.xd [(f, v)]) := by
      funext b
      by_cases h1 : b = d
      · rw [h1, upd_same, upd_same]
      · rw [upd_ne h1, upd_ne h1]
        by_cases h2 : b = a
        · rw [h2, L2.del_same, ha]
        · rw [L2.del_ne h2, upd_ne h2, upd_ne h1, upd_ne h2]
    rw [eh]
    exact nq _ _ _ ⟨.ref C, some ([f], [w])⟩ S1 (W1.new hd1) ⟨rfl, d, [v], rfl, Fz.new W1 hd1, rfl, .cons (rv.mono (Evo.new hd1)) .nil⟩ (e1.trans (Evo.new hd1)) q
/-! ### list comprehensions -/
def wipeW (σ : Env) : List Nat → Env
  | [] => σ
  | v :: vs => (wipeW σ vs).set v none
theorem RpS.wipe {K : Frg} {P : Hid} {S : Store} {H : Hp} {σ : Env} {σv : L2.St} (h : RpS K P S H σ σv) : ∀ vs : List Nat, RpS K P S H (wipeW σ vs) (L2.wipe σv vs)
  | [] => h
  | v :: vs => (RpS.wipe h vs).forget v
/-- the target of a comprehension: names -/
abbrev BW := Dt → Env → Option Env
def Binds1 (K : Frg) (g : TG) (vs : List Nat) (b : BW) : Prop := ∀ (P : Hid) (S : Store) (H : Hp) (w : Dt) (v : V) (σ σ' : Env) (σv : L2.St) (R : L2.St → Hp → Prop), Wd K P S H → RpS K P S H σ σv → Rp K P S H w v → b w (wipeW σ vs) = some σ' →
  (∀ σv', RpS K P S H σ' σv' → L2.wipe σv' vs = L2.wipe σv vs → R σv' H) → g v (L2.wipe σv vs) H R
def bName (i : Nat) : BW := fun w σ => some (σ.set i (some w))
def bPair (i j : Nat) : BW := fun w σ => match w with
  | .tup [a, b] => some ((σ.set i (some a)).set j (some b))
  | _ => none
theorem binds_name {K : Frg} {i : Nat} : Binds1 K (gName i) [i] (bName i) := fun P S H w v σ σ' σv R W r rw' e k => by
  cases e
  refine k _ ((r.wipe [i]).set rw') ?_
  show (((σv.set i none).set i (some v)).set i none) = σv.set i none
  rw [List.set_set, List.set_set]
theorem binds_pair {K : Frg} {i j : Nat} (h : i ≠ j) : Binds1 K (gTup K 2 (gCons (gName i) (gCons (gName j) gNil))) [i, j] (bPair i j) := fun P S H w v σ σ' σv R W r rw' e k => by
  unfold bPair at e
  split at e
  · rename_i a b
    cases e
    obtain ⟨p, xs, rfl, h1, rl⟩ := rp_tup rw'
    obtain ⟨x, y, rfl, ra, rb⟩ := rl.two
    refine ⟨p, _, rfl, h1, rfl, x, [y], rfl, y, [], rfl, rfl, ?_⟩
    refine k _ (((r.wipe [i, j]).set ra).set rb) ?_
    show (((((σv.set j none).set i none).set i (some x)).set j (some y)).set j none).set i none = (σv.set j none).set i none
    rw [List.set_set, List.set_set, List.set_comm _ _ (Ne.symm h), List.set_set, List.set_comm _ _ h, List.set_set, List.set_comm _ _ (Ne.symm h)]
  · cases e
def JTs (X : Cx) (E : WX) (es : List Expr) (m : MT) : Prop := PTs X es (rdT X.K E m)
def mYes : MT := fun _ S Q _ => Q true S
theorem jts_nil : JTs X E [] mYes := ⟨fun pins s σv H Qv I q => by
  obtain ⟨P, S, σ, Q, Ex, W, r, m, nq, nx⟩ := q
  exact pts_nil.run pins s σv H Qv I (nq true H S W Evo.refl m)⟩
theorem jts_one {e : Expr} {m : MT} (h : JT X E e m) : JTs X E [e] m := pts_one h
def compW (b : BW) (mt : MT) (me : ME) (σ : Env) (vs : List Nat) (gd : Store → Prop) (Q : List Dt → Store → Prop) : List Dt → List Dt → Store → Prop
  | [], acc, S => gd S ∧ Q acc S
  | w :: ws, acc, S => gd S ∧ match b w (wipeW σ vs) with
    | some σ1 => mt σ1 S (fun c S2 => br c (me σ1 S2 (fun y S3 => acc.length < sizeLine ∧ compW b mt me σ vs gd Q ws (acc ++ [y]) S3) (fun _ _ => False)) (compW b mt me σ vs gd Q ws acc S2)) (fun _ _ => False)
    | none => False
def mComp (mi : MI) (b : BW) (mt : MT) (me : ME) (vs : List Nat) : ML := fun σ S Q Ex => mi σ S (fun ws gd S1 => compW b mt me σ vs gd Q ws [] S1) Ex
def hdel (H : Hp) (a : Addr) : Hp := fun b => if b = a then none else H b
theorem comp_weak {K : Frg} {mi : MI} {g : TG} {b : BW} {mt : MT} {me : ME} {vs : List Nat} (hb : Binds1 K g vs b) {σv : L2.St} {H : Hp} {Qv : VK} (h : rdL K E (mComp mi b mt me vs) σv H Qv) :
    tLc (rdI K E mi) g (rdT K (fun _ _ _ _ => False) mt) (rdE K (fun _ _ _ _ => False) me) vs σv H Qv := by
  obtain ⟨P, S, σ, Q, Ex, W, r, m, nl, nx⟩ := h
  refine ⟨P, S, σ, _, Ex, W, r, m, fun J H1 ws gd S1 W1 e1 dl m1 => ?_, nx⟩
  intro Dl hD
  have fr := W1.free hD
  have hp : ∀ b, (P b ∨ b = Dl) → P b ∨ H1 b = none := fun b h => h.imp id fun z => by rw [z]; exact hD
  have nD : ∀ {a o}, H1 a = some o → a ≠ Dl := fun h z => by rw [z, hD] at h; cases h
  refine ⟨fun i k H2 => ∃ S2 us acc xs, Wd K (fun b => P b ∨ b = Dl) S2 H2 ∧ Evo S1 H1 S2 H2 ∧ H2 Dl = some (.lst xs) ∧ RpL K (fun b => P b ∨ b = Dl) S2 H2 acc xs ∧ us = ws.drop i ∧ k = us.length ∧ i ≤ ws.length ∧ compW b mt me σ vs gd Q us acc S2, ⟨ws.length, S1, ws, [], [], ?_, Evo.new hD, upd_same, RpL.nil, rfl, rfl, Nat.zero_le _, m1⟩, ?_⟩
  · refine ⟨fun a o e => ?_, fun a q => ?_⟩
    · refine (W1.sim a o e).conv (fun a' o' h' n' p' => ⟨by rw [upd_ne (nD h')]; exact h', n', fun q => q.elim p' fun z => nD h' z⟩) (fun u hu => by rw [upd_ne (nD hu)]; exact hu)
    · rcases q with q | q
      · obtain ⟨h1, u, h2⟩ := W1.hid a q
        exact ⟨h1, u, by rw [upd_ne (nD h2)]; exact h2⟩
      · rw [q]; exact ⟨fr.1, _, upd_same⟩
  · rintro i k H2 ⟨S2, us, acc, xs, W2, e2, hx, rl, eu, ek, hi, f⟩
    have sD : S2 Dl = none := (W2.hid Dl (.inr rfl)).1
    cases us with
    | nil =>
      unfold compW at f
      have hl : ws.length ≤ i := by
        have := congrArg List.length eu
        simp at this
        omega
      refine .inl ⟨(dl _ S2 H2 i hp W2 e2 f.1).2 hl, ?_⟩
      have dn : ∀ {a : Addr}, a ≠ Dl → hdel H2 Dl a = H2 a := fun {a} z => by unfold hdel; rw [if_neg z]
      have c : ∀ a o, H2 a = some o → S2 a = none → ¬ (P a ∨ a = Dl) → hdel H2 Dl a = some o ∧ S2 a = none ∧ ¬ P a := fun a o h n q => ⟨by rw [dn fun z => q (.inr z)]; exact h, n, fun z => q (.inl z)⟩
      refine nl Dl (hdel H2 Dl) H2 xs acc S2 ⟨fun a o e => ?_, fun a q => ?_⟩ (by unfold hdel; rw [if_pos rfl]) ?_ (rl.conv c) (e1.trans fun a o n h => ?_) f.2
      · exact (W2.sim a o e).conv c fun u hu => by rw [dn fun z => by rw [z, sD] at e; cases e]; exact hu
      · obtain ⟨h1, u, h2⟩ := W2.hid a (.inl q)
        exact ⟨h1, u, by rw [dn fun z => fr.2 (z ▸ q)]; exact h2⟩
      · funext a
        by_cases z : a = Dl
        · rw [z, upd_same]; exact hx
        · rw [upd_ne z, dn z]
      · obtain ⟨h1, h2⟩ := e2 a o n h
        exact ⟨by rw [dn (nD h)]; exact h1, h2⟩
    | cons w us =>
      unfold compW at f
      have ew : ws[i]? = some w := by
        have := congrArg List.head? eu
        rw [List.head?_cons, List.head?_drop] at this
        exact this.symm
      have hil : i < ws.length := (List.getElem?_eq_some_iff.mp ew).1
      have eu2 : us = ws.drop (i + 1) := by
        have := congrArg List.tail eu
        rw [List.tail_cons, List.tail_drop] at this
        exact this
      obtain ⟨hgo, hy⟩ := (dl _ S2 H2 i hp W2 e2 f.1).1 w ew
      refine .inr ⟨hgo, fun H' => ∃ S3 acc' xs', Wd K (fun b => P b ∨ b = Dl) S3 H' ∧ Evo S1 H1 S3 H' ∧ H' Dl = some (.lst xs') ∧ RpL K (fun b => P b ∨ b = Dl) S3 H' acc' xs' ∧ compW b mt me σ vs gd Q us acc' S3, fun H' hN => ?_, fun x H' hx' => ?_⟩
      · obtain ⟨S3, acc', xs', W3, e3, h3, rl3, f3⟩ := hN
        exact ⟨us.length, by rw [ek, List.length_cons]; omega, S3, us, acc', xs', W3, e3, h3, rl3, eu2, rfl, hil, f3⟩
      · obtain ⟨W3, e3, r3⟩ := hy x H' hx'
        have f2 := f.2
        split at f2
        · rename_i σ1 eb
          have rs : RpS K (fun b => P b ∨ b = Dl) S2 H' σ σv := ⟨r.1, fun j z q => by
            obtain ⟨v, a, b⟩ := (r.mono e1).2 j z q
            exact ⟨v, a, rp_live hp (e2.trans e3) b⟩⟩
          refine hb _ S2 H' w x σ σ1 σv _ W3 rs r3 eb fun σv' rs' ewp => ⟨ewp, _, S2, σ1, _, _, W3, rs', f2, fun cc H4 S4 W4 e4 q4 => ?_, fun _ _ _ _ _ _ _ _ q => q.elim⟩
          have h4 : H4 Dl = some (.lst xs) ∧ S4 Dl = none := (e3.trans e4) Dl _ sD hx
          cases cc with
          | true =>
            refine ⟨_, S4, σ1, _, _, W4, rs'.mono e4, q4, fun y H5 wy S5 W5 r5 e5 q5 => ?_, fun _ _ _ _ _ _ _ _ q => q.elim⟩
            have h5 := e5 Dl _ h4.2 h4.1
            have c : ∀ a o, H5 a = some o → S5 a = none → ¬ (P a ∨ a = Dl) → upd H5 Dl (.lst (xs ++ [y])) a = some o ∧ S5 a = none ∧ ¬ (P a ∨ a = Dl) := fun a o h n q => ⟨by rw [upd_ne fun z => q (.inr z)]; exact h, n, q⟩
            refine ⟨xs, h5.1, by rw [← rl.length]; exact q5.1, S5, acc ++ [wy], xs ++ [y], ⟨fun a o e => ?_, fun a q => ?_⟩, fun a o n h => ?_, upd_same, ?_, q5.2⟩
            · exact (W5.sim a o e).conv c fun u hu => by rw [upd_ne fun z => by rw [z, h5.2] at e; cases e]; exact hu
            · by_cases z : a = Dl
              · rw [z]; exact ⟨h5.2, _, upd_same⟩
              · obtain ⟨h1, u, h2⟩ := W5.hid a q
                exact ⟨h1, u, by rw [upd_ne z]; exact h2⟩
            · obtain ⟨h1, h2⟩ := (((e2.trans e3).trans e4).trans e5) a o n h
              exact ⟨by rw [upd_ne (nD h)]; exact h1, h2⟩
            · exact ((rl.mono ((e3.trans e4).trans e5)).append (RpL.cons r5 RpL.nil)).conv c
          | false => exact ⟨S4, acc, xs, W4, (e2.trans e3).trans e4, h4.1, rl.mono (e3.trans e4), q4⟩
        · exact f2.elim
section
variable {X : Cx} {E : WX}
theorem jl_comp {elt tg iter : Expr} {ifs : List Expr} {scope : Scope} {own : List (Str × Nat)} {pos : Pos} {mi : MI} {g : TG} {b : BW} {mt : MT} {me : ME} (hc : X.calm = true) (hN : X.N.Nodup) (hi : JI X E tg iter mi) (ok : BlkOk X.N X.env.scope scope own) (hb : Binds1 X.K g (own.map (·.2)) b)
    (hg : ∀ (s : Shared) (H : Hp) (C : Addr) (cl : List (Str × Addr)) (fp : List Addr), PG (X.blk s H scope (compEnvC scope cl C X.env) fp) tg g)
    (ht : ∀ (s : Shared) (H : Hp) (C : Addr) (cl : List (Str × Addr)) (fp : List Addr), JTs (X.blk s H scope (compEnvC scope cl C X.env) fp) (fun _ _ _ _ => False) ifs mt)
    (he : ∀ (s : Shared) (H : Hp) (C : Addr) (cl : List (Str × Addr)) (fp : List Addr), JE (X.blk s H scope (compEnvC scope cl C X.env) fp) (fun _ _ _ _ => False) elt me)
    (hs : ∀ x, foldedSetIterable iter X.env x = pure x := by intro _; rfl) : JL X E (.ListComp elt [⟨tg, iter, ifs, 0⟩] scope pos) (mComp mi b mt me (own.map (·.2))) :=
  PE.weak (pe_lc (tt := rdT X.K (fun _ _ _ _ => False) mt) (te := rdE X.K (fun _ _ _ _ => False) me) hc hN hi ok hg ht he hs) fun _ _ _ q => comp_weak hb q
end
end
end Dn

namespace Dn
open PySem PySem.Spec PyProof.Rows L2 RZ
section
variable {X : Cx} {E : WX}
/-- a list, a tuple, a text: what for asks of it, by value -/
theorem it_list {pins : List (Addr × Obj)} {σ : L2.St} {H : Hp} {s : Shared} {R : It → Hp → Prop} {tg : Expr} {a : Addr} {xs : List V} (I : L2.Inv X pins σ H s) (hq : SqL X.K H a xs) (q : R (Itl X.K a) H) :
    wpAny (model X.prog X.w) X.A (pyIter (.ref a)) (PIE X pins σ tg R) X.xe s := by
  obtain ⟨its, _, p, _⟩ := I.list hq
  exact wpAny_pyIter_list p.isList (pi_one (tk := s.toks) I _ (turn_list a _) ⟨_, Heap.get?_push_size _ rfl, rfl, rfl⟩ q)
theorem it_tup {pins : List (Addr × Obj)} {σ : L2.St} {H : Hp} {s : Shared} {R : It → Hp → Prop} {tg : Expr} {a : Addr} {xs : List V} (I : L2.Inv X pins σ H s) (hq : SqT X.K H a xs) (q : R (Itt X.K a) H) :
    wpAny (model X.prog X.w) X.A (pyIter (.ref a)) (PIE X pins σ tg R) X.xe s := by
  obtain ⟨its, _, p, _⟩ := I.tuple hq
  exact wpAny_pyIter_tuple (show s.heap.IsTuple a its.toArray from p) (pi_one (tk := s.toks) I _ (turn_tuple a _) ⟨_, Heap.get?_push_size _ rfl, rfl, rfl⟩ q)
theorem it_str {pins : List (Addr × Obj)} {σ : L2.St} {H : Hp} {s : Shared} {R : It → Hp → Prop} {tg : Expr} {x : Str} {t : Tok} (I : L2.Inv X pins σ H s) (q : R (Its x) H) :
    wpAny (model X.prog X.w) X.A (pyIter (.str x t)) (PIE X pins σ tg R) X.xe s := by
  by_cases ha : x.cps.all (· < 128) = true
  · exact wpAny_pyIter_ascii ha (pi_one (tk := s.toks) I _ (turn_str _ x t _ (.inl rfl)) ⟨_, Heap.get?_push_size _ rfl, rfl, rfl⟩ q)
  · exact wpAny_pyIter_wide (by simpa using ha) (pi_one (tk := s.toks) I _ (turn_str _ x t _ (.inr rfl)) ⟨_, Heap.get?_push_size _ rfl, rfl, rfl⟩ q)
def signsW (x : Str) : List Dt := x.cps.toList.map fun c => .str ⟨#[c]⟩
def seqQ (Q : List Dt → (Store → Prop) → Store → Prop) (w : Dt) (S1 : Store) : Prop := match w with
  | .ref a => match S1 a with | some (.lst ws) => Q ws (fun S2 => S2 a = some (.lst ws)) S1 | _ => False
  | .lst ws => Q ws (fun _ => True) S1
  | .kl ws => Q ws (fun _ => True) S1
  | .tup ws => Q ws (fun _ => True) S1
  | .str x => Q (signsW x) (fun _ => True) S1
  | _ => False
def mSeqI (m : ME) : MI := fun σ S Q Ex => m σ S (seqQ Q) Ex
theorem deliv_list {K : Frg} {P : Hid} {S1 : Store} {H1 : Hp} {a : Addr} {xs : List V} {ws : List Dt} (rl : RpL K P S1 H1 ws xs)
    (k : ∀ (P' : Hid) (S2 : Store) (H2 : Hp), (∀ b, P' b → P b ∨ H1 b = none) → Evo S1 H1 S2 H2 → SqL K H2 a xs) : Deliv K P (Itl K a) S1 H1 ws (fun _ => True) := fun P' S2 H2 i hp W2 e2 _ => by
  have h2 := k P' S2 H2 hp e2
  have rl2 := rpl_live hp e2 rl
  refine ⟨fun w ew => ?_, fun hi => ⟨xs, h2, by rw [← rl.length]; exact hi⟩⟩
  obtain ⟨x, ex, rx⟩ := rl2.get ew
  refine ⟨⟨xs, x, h2, ex⟩, fun y H' hy => ?_⟩
  obtain ⟨rfl, hy⟩ := hy
  have := (hy xs h2).symm.trans ex
  cases this
  exact ⟨W2, Evo.refl, rx⟩
theorem deliv_ref {K : Frg} {P : Hid} {S1 : Store} {H1 : Hp} {a : Addr} {ws : List Dt} : Deliv K P (Itl K a) S1 H1 ws (fun S2 => S2 a = some (.lst ws)) := fun P' S2 H2 i hp W2 e2 g => by
  obtain ⟨ys, e3, rl3⟩ := W2.sim a _ g
  refine ⟨fun w ew => ?_, fun hi => ⟨ys, SqL.of e3, by rw [← rl3.length]; exact hi⟩⟩
  obtain ⟨x, ex, rx⟩ := rl3.get ew
  refine ⟨⟨ys, x, SqL.of e3, ex⟩, fun y H' hy => ?_⟩
  obtain ⟨rfl, hy⟩ := hy
  have := (hy ys (SqL.of e3)).symm.trans ex
  cases this
  exact ⟨W2, Evo.refl, rx⟩
theorem deliv_tup {K : Frg} {P : Hid} {S1 : Store} {H1 : Hp} {a : Addr} {xs : List V} {ws : List Dt} (f : Fz P S1 H1 a (.tup xs) ∨ KT K a xs) (rl : RpL K P S1 H1 ws xs) : Deliv K P (Itt K a) S1 H1 ws (fun _ => True) := fun P' S2 H2 i hp W2 e2 _ => by
  have h2 : SqT K H2 a xs := by
    rcases f with f | f
    · exact SqT.of (e2 a _ f.2.1 f.1).1
    · exact f.sq
  have rl2 := rpl_live hp e2 rl
  refine ⟨fun w ew => ?_, fun hi => ⟨xs, h2, by rw [← rl.length]; exact hi⟩⟩
  obtain ⟨x, ex, rx⟩ := rl2.get ew
  refine ⟨⟨xs, x, h2, ex⟩, fun y H' hy => ?_⟩
  obtain ⟨rfl, hy⟩ := hy
  have := (hy xs h2).symm.trans ex
  cases this
  exact ⟨W2, Evo.refl, rx⟩
theorem deliv_str {K : Frg} {P : Hid} {S1 : Store} {H1 : Hp} {x : Str} : Deliv K P (Its x) S1 H1 (signsW x) (fun _ => True) := fun P' S2 H2 i hp W2 e2 _ => by
  refine ⟨fun w ew => ?_, fun hi => by unfold signsW at hi; rw [List.length_map, Array.length_toList] at hi; exact hi⟩
  unfold signsW at ew
  rw [List.getElem?_map, Array.getElem?_toList] at ew
  cases q : x.cps[i]? with
  | none => rw [q] at ew; cases ew
  | some c =>
    rw [q] at ew
    cases ew
    refine ⟨(Array.getElem?_eq_some_iff.mp q).1, fun y H' hy => ?_⟩
    obtain ⟨rfl, d, ed, rfl⟩ := hy
    rw [q] at ed
    cases ed
    exact ⟨W2, Evo.refl, rpStr⟩
theorem ji_seq {tg l : Expr} {m : ME} (hl : JE X E l m) : JI X E tg l (mSeqI m) := by
  refine ⟨fun pins s σv H R I q => ?_⟩
  obtain ⟨P, S, σ, Q, Ex, W, r, m, nj, nx⟩ := q
  refine thn (hl.run pins s σv H (fun v H1 => ∃ w S1, Wd X.K P S1 H1 ∧ Rp X.K P S1 H1 w v ∧ Evo S H S1 H1 ∧ seqQ Q w S1) I ⟨P, S, σ, _, Ex, W, r, m, fun v H1 w S1 W1 r1 e1 m1 => ⟨w, S1, W1, r1, e1, m1⟩, nx⟩) fun u s1 ⟨v, H1, I1, rv, w, S1, W1, r1, e1, m1⟩ => ?_
  unfold seqQ at m1
  split at m1
  · rename_i a
    rw [rp_ref] at r1
    subst r1
    cases rv
    split at m1
    · rename_i ws e
      obtain ⟨xs, e2, rl⟩ := W1.sim a _ e
      exact it_list I1 (SqL.of e2) (nj _ H1 ws _ S1 W1 e1 deliv_ref m1)
    · exact m1.elim
  · unfold Rp at r1
    obtain ⟨a, xs, rfl, f, rl⟩ := r1
    cases rv
    exact it_list I1 f.sqL (nj _ H1 _ _ S1 W1 e1 (deliv_list rl fun P' S2 H2 hp e2 => SqL.of (e2 a _ f.2.1 f.1).1) m1)
  · unfold Rp at r1
    obtain ⟨a, xs, rfl, f, rl⟩ := r1
    cases rv
    refine it_list I1 (sqK_of f) (nj _ H1 _ _ S1 W1 e1 (deliv_list rl fun P' S2 H2 hp e2 => ?_) m1)
    rcases f with ⟨o, f⟩ | f
    · exact .inl (.inr ⟨o, (e2 a _ f.2.1 f.1).1⟩)
    · exact f.sq
  · unfold Rp at r1
    obtain ⟨a, xs, rfl, f, rl⟩ := r1
    cases rv
    exact it_tup I1 (sqT_of f) (nj _ H1 _ _ S1 W1 e1 (deliv_tup f rl) m1)
  · rw [rp_str] at r1
    subst r1
    obtain ⟨t, rfl⟩ := rv
    exact it_str I1 (nj _ H1 _ _ S1 W1 e1 deliv_str m1)
  · exact m1.elim
/-- zip of two tuples, of two lists that are not changed -/
def zipW : List Dt → List Dt → List Dt
  | a :: as, b :: bs => .tup [a, b] :: zipW as bs
  | _, _ => []
theorem zipW_get : ∀ {as bs : List Dt} {i : Nat} {w : Dt}, (zipW as bs)[i]? = some w → ∃ a b, as[i]? = some a ∧ bs[i]? = some b ∧ w = .tup [a, b]
  | [], _, i, w, h => by simp [zipW] at h
  | _ :: _, [], i, w, h => by simp [zipW] at h
  | a :: as, b :: bs, 0, w, h => by
    unfold zipW at h
    simp at h
    exact ⟨a, b, rfl, rfl, h.symm⟩
  | a :: as, b :: bs, i + 1, w, h => by
    unfold zipW at h
    obtain ⟨c, d, h1, h2, h3⟩ := zipW_get (as := as) (bs := bs) (i := i) (by simpa using h)
    exact ⟨c, d, by simpa using h1, by simpa using h2, h3⟩
theorem zipW_len : ∀ (as bs : List Dt), (zipW as bs).length = min as.length bs.length
  | [], _ => by simp [zipW]
  | _ :: _, [] => by simp [zipW]
  | a :: as, b :: bs => by unfold zipW; rw [List.length_cons, List.length_cons, List.length_cons, zipW_len as bs]; omega
def mZip (ma : MA) : MI := fun σ S Q Ex => ma σ S (fun ws S1 => match ws with
  | [.tup as, .tup bs] => Q (zipW as bs) (fun _ => True) S1
  | [.lst as, .lst bs] => Q (zipW as bs) (fun _ => True) S1
  | _ => False) Ex
theorem ji_zip {e e2 : Expr} {ma : MA} {p pos tpos : Pos} {elts : List Expr} {kk : Nat} (hg : Gl X "zip") (hm : X.mg "zip" = none) (ha : JA X E [e, e2] ma)
    (hs : starEach [e, e2] X.env = (false, eval e X.env) :: starEach [e2] X.env := by rfl) (hpl : (backTo pos (starEach [e2] X.env)).any (·.1) = false := by rfl) :
    JI X E (.Tuple elts kk tpos) (.Call (.Name "zip" p) [e, e2] [] pos) (mZip ma) := PI.weak (pi_zipA hg hm ha hs hpl) fun σv H R q => by
  obtain ⟨P, S, σ, Q, Ex, W, r, m, nj, nx⟩ := q
  refine ⟨P, S, σ, _, Ex, W, r, m, fun v H1 w S1 W1 r1 e1 m1 => ?_, nx⟩
  dsimp only at m1
  split at m1
  · rename_i as bs
    obtain ⟨v1, v2, rfl, ra, rb⟩ := r1.two
    unfold Rp at ra rb
    obtain ⟨a, xs, rfl, fa, rla⟩ := ra
    obtain ⟨b, ys, rfl, fb, rlb⟩ := rb
    refine ⟨a, b, xs, ys, rfl, .inr ⟨sqT_of fa, sqT_of fb, nj _ H1 _ _ S1 W1 e1 (fun P' S2 H2 i hp W2 e2 _ => ?_) m1⟩⟩
    have liv : ∀ {c : Addr} {zs : List V}, (Fz P S1 H1 c (.tup zs) ∨ KT X.K c zs) → SqT X.K H2 c zs := fun f => f.elim (fun f => SqT.of (e2 _ _ f.2.1 f.1).1) KT.sq
    have h1 := liv fa
    have h2 := liv fb
    have la := rpl_live hp e2 rla
    have lb := rpl_live hp e2 rlb
    refine ⟨fun w ew => ?_, fun hi => ⟨xs, ys, h1, h2, by rw [zipW_len] at hi; rw [← rla.length, ← rlb.length]; omega⟩⟩
    obtain ⟨wa, wb, ea, eb, rfl⟩ := zipW_get ew
    obtain ⟨x, ex, rx⟩ := la.get ea
    obtain ⟨y, ey, ry⟩ := lb.get eb
    refine ⟨⟨xs, ys, x, y, h1, h2, ex, ey⟩, fun z H' hz => ?_⟩
    obtain ⟨T, x', y', rfl, nT, rfl, hx, hy⟩ := hz
    have q1 := (hx xs h1).symm.trans ex
    have q2 := (hy ys h2).symm.trans ey
    cases q1
    cases q2
    refine ⟨W2.new nT, Evo.new nT, ?_⟩
    unfold Rp
    exact ⟨T, _, rfl, .inl (Fz.new W2 nT), RpL.cons (rx.mono (Evo.new nT)) (RpL.cons (ry.mono (Evo.new nT)) RpL.nil)⟩
  · rename_i as bs
    obtain ⟨v1, v2, rfl, ra, rb⟩ := r1.two
    unfold Rp at ra rb
    obtain ⟨a, xs, rfl, fa, rla⟩ := ra
    obtain ⟨b, ys, rfl, fb, rlb⟩ := rb
    refine ⟨a, b, xs, ys, rfl, .inl ⟨fa.sqL, fb.sqL, nj _ H1 _ _ S1 W1 e1 (fun P' S2 H2 i hp W2 e2 _ => ?_) m1⟩⟩
    have h1 : SqL X.K H2 a xs := SqL.of (e2 _ _ fa.2.1 fa.1).1
    have h2 : SqL X.K H2 b ys := SqL.of (e2 _ _ fb.2.1 fb.1).1
    have la := rpl_live hp e2 rla
    have lb := rpl_live hp e2 rlb
    refine ⟨fun w ew => ?_, fun hi => ⟨xs, ys, h1, h2, by rw [zipW_len] at hi; rw [← rla.length, ← rlb.length]; omega⟩⟩
    obtain ⟨wa, wb, ea, eb, rfl⟩ := zipW_get ew
    obtain ⟨x, ex, rx⟩ := la.get ea
    obtain ⟨y, ey, ry⟩ := lb.get eb
    refine ⟨⟨xs, ys, x, y, h1, h2, ex, ey⟩, fun z H' hz => ?_⟩
    obtain ⟨T, x', y', rfl, nT, rfl, hx, hy⟩ := hz
    have q1 := (hx xs h1).symm.trans ex
    have q2 := (hy ys h2).symm.trans ey
    cases q1
    cases q2
    refine ⟨W2.new nT, Evo.new nT, ?_⟩
    unfold Rp
    exact ⟨T, _, rfl, .inl (Fz.new W2 nT), RpL.cons (rx.mono (Evo.new nT)) (RpL.cons (ry.mono (Evo.new nT)) RpL.nil)⟩
  · exact m1.elim
/-! ### the defs of the text, what is global -/
end
/-- a def of the text -/
def Dfn (K : Frg) (mg : Str → Option Value) (x : Str) (st : Stmt) (ps : List Str) : Prop := ∃ (f : Addr) (fd : FuncData), mg x = some (.ref f) ∧ L2.Fun K x x st f fd ∧ Binds K fd ps []
/-- a def that keeps its promise -/
def Cal (P : Program) (w : World) (K : Frg) (mg : Str → Option Value) (base : Heap) (x : Str) (k : Nat) (ps : List Str) (n : Nat) (G : Fw) : Prop :=
  ∃ (f : Addr) (fd : FuncData), mg x = some (.ref f) ∧ PySem.W.keepIn K (.ref f) = true ∧ Binds K fd ps [] ∧ FnOk P w K mg base (L2.CX P w) k f fd ps (spOf K n G)
theorem Cal.mono {P : Program} {w : World} {K : Frg} {mg : Str → Option Value} {base : Heap} {x : Str} {j k : Nat} {ps : List Str} {n : Nat} {G : Fw} (C : Cal P w K mg base x j ps n G) (h : j ≤ k) : Cal P w K mg base x k ps n G :=
  let ⟨f, fd, a, b, c, d⟩ := C; ⟨f, fd, a, b, c, d.mono h⟩
theorem Cal.imp {P : Program} {w : World} {K : Frg} {mg : Str → Option Value} {base : Heap} {x : Str} {k : Nat} {ps : List Str} {n : Nat} {G G' : Fw} (C : Cal P w K mg base x k ps n G) (h : ∀ ws S Q Ex, ws.length = n → G' ws S Q Ex → G ws S Q Ex) : Cal P w K mg base x k ps n G' :=
  let ⟨f, fd, a, b, c, d⟩ := C; ⟨f, fd, a, b, c, FnOk.impW d h⟩
theorem cal_of {P : Program} {w : World} {K : Frg} {mg : Str → Option Value} {base : Heap} {x : Str} {st : Stmt} {N ps : List Str} {k n : Nat} (D : Dfn K mg x st ps) (Sc : FnScope N ps (defScope st)) (G : Fw) (hn : ps.length = n)
    (hbody : ∀ (f : Addr) (cdv : Value) (A : Around) (outer : List PySem.Env) (s : Shared) (H : Hp) (E : XK), Room k (A.deeper (envOfC x (defScope st) s.heap.objs.size f cdv)) →
      ∃ m, JSs (cxOf (L2.CX P w) P w K mg base N x (defScope st) f cdv A outer s H E) (fun c d _ H' => E c d H') (defBody st) m ∧
        ∀ (ws : List Dt) (S : Store) (Q : Dt → Store → Prop) (Ex : Exn → Store → Prop), ws.length = n → G ws S Q Ex →
          m ⟨fun _ S' => clo Q .non S', clo Q, fun _ _ => False, fun _ _ => False, fun x _ S' => clX Ex x S'⟩ (startW N.length ws) S) : Cal P w K mg base x (k + 1) ps n G :=
  let ⟨f, fd, a, F, b⟩ := D
  ⟨f, fd, a, F.kp, b, ok_w F Sc G hn (hbody f)⟩
section
variable {X : Cx} {E : WX}
theorem je_cal {k n : Nat} {ps : List Str} {G : Fw} {x : Str} {p pos : Pos} {e : Expr} {es : List Expr} {ma : MA} (C : Cal X.prog X.w X.K X.mg X.base x k ps n G) (hr : Room k X.A) (tk : Takes X E) (hg : Gl X x) (ha : JA X E (e :: es) ma)
    (hdb : (x == ("__debug__" : Str)) = false := by decide) (he : starEach (e :: es) X.env = (false, eval e X.env) :: starEach es X.env := by rfl)
    (hpl : (backTo pos (starEach es X.env)).any (·.1) = false := by rfl) : JE X E (.Call (.Name x p) (e :: es) [] pos) (mCall n G ma) :=
  let ⟨f, fd, a, b, c, d⟩ := C
  je_call d hr tk hg a b c ha hdb he hpl
def Gint (mg : Str → Option Value) (x : Str) (i : Int) : Prop := ∃ t, mg x = some (.int i t)
def Gstr (mg : Str → Option Value) (x i : Str) : Prop := ∃ t, mg x = some (.str i t)
theorem je_gi {x : Str} {i : Int} {pos : Pos} (hg : Gl X x) (hm : Gint X.mg x i) (hd : (x == ("__debug__" : Str)) = false := by decide) : JE X E (.Name x pos) (mC (.int i)) := let ⟨t, h⟩ := hm; je_gint hg h hd
theorem je_gs {x i : Str} {pos : Pos} (hg : Gl X x) (hm : Gstr X.mg x i) (hd : (x == ("__debug__" : Str)) = false := by decide) : JE X E (.Name x pos) (mC (.str i)) := let ⟨t, h⟩ := hm; je_gstr hg h hd
theorem takes_def {P : Program} {w : World} {K : Frg} {mg : Str → Option Value} {base : Heap} {N : List Str} {qual : Str} {scope : Scope} {f : Addr} {cd : Value} {A : Around} {outer : List PySem.Env} {s : Shared} {H : Hp} {E : XK} :
    Takes (cxOf (L2.CX P w) P w K mg base N qual scope f cd A outer s H E) (fun c d _ H' => E c d H') := takes_of rfl rfl rfl rfl
theorem passes_def {P : Program} {w : World} {K : Frg} {mg : Str → Option Value} {base : Heap} {N : List Str} {qual : Str} {scope : Scope} {f : Addr} {cd : Value} {A : Around} {outer : List PySem.Env} {s : Shared} {H : Hp} {E : XK} :
    PassesOwn (model P w) (cxOf (L2.CX P w) P w K mg base N qual scope f cd A outer s H E).A (cxOf (L2.CX P w) P w K mg base N qual scope f cd A outer s H E).env (cxOf (L2.CX P w) P w K mg base N qual scope f cd A outer s H E).xe := by
  exact passes_of (X := cxOf (L2.CX P w) P w K mg base N qual scope f cd A outer s H E) rfl
end
/-- def __init__(self, f): self.f = f -/
theorem ok_ini1 {P : Program} {w : World} {K : Frg} {mg : Str → Option Value} {base : Heap} {qual f : Str} {st : Stmt} {fI C : Addr} {fd : FuncData} {p1 p2 p3 p4 : Pos} (F : L2.Fun K "__init__" qual st fI fd) (Sc : FnScope ["self", f] ["self", f] (defScope st))
    (hB : defBody st = [.Assign [.Attribute (.Name "self" p1) f p2] (.Name f p3) p4]) (v1 : Vis (defScope st) "self") (v2 : Vis (defScope st) f) (h1 : (f == ("__debug__" : Str)) = false) (h2 : (f == ("__classdict__" : Str)) = false)
    (T : OexC K C) (no : PySem.W.findIn K (.ref C) f = some none) :
    FnOk P w K mg base (L2.CX P w) 1 fI fd ["self", f] (fun vs H Q _ => ∃ a y, vs = [.ref a, y] ∧ H a = some (exo a C none) ∧ ∀ d, H d = none → d ≠ a → Q .non (upd (upd H d (exd d [(f, y)])) a (exo a C (some d)))) := by
  refine F.okX Sc (fun vs H Q E h => by obtain ⟨a, y, rfl, _⟩ := h; rfl) fun cdv A outer s H vs Q E hr h => ?_
  obtain ⟨a, y, rfl, e, k⟩ := h
  refine ⟨_, by rw [hB]; exact pss_one (ps_ost (pe_var (i := 0) rfl v1) (pe_var (i := 1) rfl v2 h1 h2)), ?_⟩
  exact ⟨y, rfl, .ref a, rfl, a, C, rfl, T, no, .inl ⟨e, fun dx n ne => k dx n ne⟩⟩
-- what the top has written
section
variable {K : Frg} {h : Heap} {mg : Str → Option Value}
theorem dfn_mk {x : Str} {st : Stmt} {ps : List Str} {f : Addr} {oc : Value} {od an : Option Addr} {osl : Array (Option Value)} {kV doc pm cdv ct : Value} (X : K.In h) (G : h.Ns mainGlobals mg) (a : PySem.W.nsIn K mainGlobals x = some (some (.ref f)))
    (l : K.lookup f = some ⟨oc, od, .func (PySem.W.fnOf x x (defArgs st) (defBody st) (defScope st) .none kV doc pm an cdv ct), osl⟩) (c : PySem.W.codeIn K cdv x = true) (k : PySem.W.keepIn K (.ref f) = true)
    (hb : ∀ (kV doc pm : Value) (an : Option Addr) (cdv ct : Value) (us : List Value), us.length = ps.length → bindArgs (PySem.W.fnOf x x (defArgs st) (defBody st) (defScope st) .none kV doc pm an cdv ct) ⟨us, []⟩ = pure (ps.zip us)) : Dfn K mg x st ps :=
  ⟨f, _, PySem.W.mg_of X G a, fun_mk l c k, (fun_mk (st := st) l c k).binds hb⟩
theorem gint_mk {x : Str} {i : Int} {t : Tok} (X : K.In h) (G : h.Ns mainGlobals mg) (a : PySem.W.nsIn K mainGlobals x = some (some (.int i t))) : Gint mg x i := ⟨t, PySem.W.mg_of X G a⟩
theorem gstr_mk {x i : Str} {t : Tok} (X : K.In h) (G : h.Ns mainGlobals mg) (a : PySem.W.nsIn K mainGlobals x = some (some (.str i t))) : Gstr mg x i := ⟨t, PySem.W.mg_of X G a⟩
theorem gint_loose {h' : Heap} {x : Str} {i : Int} (e : ∃ v, mg x = some v ∧ PySem.W.ReadsLit h' v (.int i) []) : Gint mg x i := by
  obtain ⟨v, a, b⟩ := e
  cases b
  exact ⟨_, a⟩
theorem gstr_loose {h' : Heap} {x i : Str} (e : ∃ v, mg x = some v ∧ PySem.W.ReadsLit h' v (.str i) []) : Gstr mg x i := by
  obtain ⟨v, a, b⟩ := e
  cases b
  exact ⟨_, a⟩
theorem exc1_mk {P : Program} {w : World} {base : Heap} {x f qual nm q : Str} {st : Stmt} {C fI N : Addr} {bs bm : List Value} {sn : List Str} {sub : List Value} {ab : Bool} {col : Option Bool} {dd : Option Addr} {k0 k1 k2 k3 k5 : Option Value}
    {oc kV dc pm cd ct : Value} {od an : Option Addr} {sl : Array (Option Value)} {p1 p2 p3 p4 : Pos} (X : K.In h) (G : h.Ns mainGlobals mg) (aE : PySem.W.nsIn K mainGlobals x = some (some (.ref C)))
    (xL : K.lookup C = some (excClassObj nm q C N bs bm true sn sub ab col dd k0 k1 k2 k3 k5 "ValueError.__new__")) (bR : PySem.HandSPX.refsVE bm = true) (sa : PySem.W.findIn K (.ref C) "__setattr__" = some (some (.builtin "object.__setattr__")))
    (ga : PySem.W.findIn K (.ref C) "__getattribute__" = some (some (.builtin "BaseException.__getattribute__"))) (gg : PySem.W.findIn K (.ref C) "__getattr__" = some none) (no : PySem.W.findIn K (.ref C) f = some none)
    (iC : PySem.W.findIn K (.ref C) "__init__" = some (some (.ref fI))) (tI : PySem.W.typeIn K (.ref fI) = some (.type "function"))
    (l : K.lookup fI = some ⟨oc, od, .func (PySem.W.fnOf "__init__" qual (defArgs st) (defBody st) (defScope st) .none kV dc pm an cd ct), sl⟩) (c : PySem.W.codeIn K cd qual = true) (kf : PySem.W.keepIn K (.ref fI) = true)
    (kC : PySem.W.keepIn K (.ref C) = true) (eC : PySem.W.subIn K (.ref C) (.type "BaseException") = some true) (tC : PySem.W.typeIn K (.ref C) = some (.type "type")) (hC : PySem.W.hasDictIn K C = true)
    (Sc : FnScope ["self", f] ["self", f] (defScope st)) (hB : defBody st = [.Assign [.Attribute (.Name "self" p1) f p2] (.Name f p3) p4]) (v1 : Vis (defScope st) "self") (v2 : Vis (defScope st) f) (h1 : (f == ("__debug__" : Str)) = false) (h2 : (f == ("__classdict__" : Str)) = false)
    (hb : ∀ (kV doc pm : Value) (an : Option Addr) (cdv ct : Value) (us : List Value), us.length = (["self", f] : List Str).length → bindArgs (PySem.W.fnOf "__init__" qual (defArgs st) (defBody st) (defScope st) .none kV doc pm an cdv ct) ⟨us, []⟩ = pure ((["self", f] : List Str).zip us)) : Exc1 P w K mg base x f C :=
  have oC : OexC K C := ⟨⟨nm, q, N, bs, bm, sn, sub, ab, col, dd, k0, k1, k2, k3, k5, xL, bR⟩, sa, eC, tC, kC⟩
  ⟨PySem.W.mg_of X G aE, oC, ⟨ga, gg, eC, hC⟩, no, fI, _, iC, tI, (fun_mk (st := st) l c kf).binds hb, ok_ini1 (fun_mk (st := st) l c kf) Sc hB v1 v2 h1 h2 oC no⟩
theorem exc0_mk {x : Str} {C : Addr} (X : K.In h) (G : h.Ns mainGlobals mg) (a : PySem.W.nsIn K mainGlobals x = some (some (.ref C))) (xC : PySem.W.excIn K C [.type "ValueError", .type "Exception", .type "BaseException", .type "object"] "ValueError.__new__" = true)
    (kC : PySem.W.keepIn K (.ref C) = true) (bC : PySem.W.subIn K (.ref C) (.type "BaseException") = some true) (tC : PySem.W.typeIn K (.ref C) = some (.type "type")) : Exc0 K mg x C := ⟨PySem.W.mg_of X G a, xC, kC, bC, tC⟩
end
/-- the law: a script of at most n numbers, True comes out -/
def lawG (n : Nat) : Fw := fun ws S Q _ => ∃ ns : List Int, ws = [.kl (ns.map Dt.int)] ∧ ns.length ≤ n ∧ S = (fun _ => none) ∧ ∀ S', Q (.bl true) S'
theorem law_sp {K : Frg} {n : Nat} {H : Hp} {a : Addr} {ns : List Int} (hl : ns.length ≤ n) (hO : Only H) (hS : SqL K H a (ns.map V.int)) : spOf K 1 (lawG n) [.ref a] H (fun v _ => v = .bl true) (fun _ _ _ => False) := by
  refine ⟨rfl, fun _ => False, fun _ => none, [.kl (ns.map Dt.int)], fun w _ => w = .bl true, fun _ _ => False, ⟨fun a o e => (by cases e), fun a h => h.elim⟩, RpL.cons ?_ RpL.nil, ⟨ns, rfl, hl, rfl, fun _ => rfl⟩, fun v H' w S' W r e q => ?_, fun _ _ _ _ _ _ _ _ q => q⟩
  · unfold Rp
    refine ⟨a, ns.map V.int, rfl, ?_, RpL.ofInt⟩
    rcases hS with (h | ⟨o, h⟩) | h
    · exfalso
      rcases hO a with q | ⟨o, u, q⟩
      · rw [q] at h; cases h
      · rw [q] at h; cases h
    · exact .inl ⟨o, h, rfl, fun h => h⟩
    · exact .inr (.inr h)
  · subst q
    rw [rp_bl] at r
    exact r
theorem walk_ofX {l : PySem.W.OpenLaw} {n k : Nat} {q : Program} {loose : List Str} {XP : (Str → Option Value) → Heap → Prop} {YP : World → Heap → Prop} {d : DefRec} {K : Params → Frg} {x : Str}
    (hn : l.most = some n) (hn2 : n ≤ sizeLine) (hdf : d.params.defaults = []) (hr : Room k callerA) (hY : ∀ (w : World) (h : Heap), YP w h → (K w.params).In h)
    (F : ∀ (w : World) (mg : Str → Option Value) (fa : Addr) (h : Heap), (K w.params).In h → h.Ns mainGlobals mg → XP mg h → mg d.name = some (.ref fa) →
      ∃ fd : FuncData, (∀ (s : Shared) (u : Value), BindsTo s fd ⟨[u], []⟩ [(x, u)]) ∧ ∀ base : Heap, (K w.params).In base → base.Ns mainGlobals mg → FnOk l.prog w (K w.params) mg base (L2.CX l.prog w) k fa fd [x] (spOf (K w.params) 1 (lawG n))) :
    PySem.W.WalkO q loose XP YP l.row.toRowW d [] (fun f vs => PySem.call f vs) := by
  refine Att.attach_call hn hdf fun w s0 s1 mg mb fa o pm cd doc a vs ns G Y ho hd hcd hmg hobj hints hlen hg => ?_
  have KX := hY w _ Y
  obtain ⟨fd, hb, hF⟩ := F w mg fa _ KX G.T.g G.X hmg
  exact law_call KX G.T.g G.T.b G.T.builtins G.T.nolimit hg hobj hints (Nat.le_trans hlen hn2) hr hF hb (fun H hO hS => law_sp hlen hO hS) fun H e s' h => cx_none h
end Dn

namespace Dn
open PySem PySem.Spec PyProof.Rows L2
/-! ### which built-in type is which -/
theorem kb_NoneType_int : kitB "NoneType" "int" = some false := by decide +kernel
theorem kb_NoneType_bool : kitB "NoneType" "bool" = some false := by decide +kernel
theorem kb_NoneType_str : kitB "NoneType" "str" = some false := by decide +kernel
theorem kb_NoneType_tuple : kitB "NoneType" "tuple" = some false := by decide +kernel
theorem kb_NoneType_list : kitB "NoneType" "list" = some false := by decide +kernel
theorem kb_NoneType_dict : kitB "NoneType" "dict" = some false := by decide +kernel
theorem kb_bool_int : kitB "bool" "int" = some true := by decide +kernel
theorem kb_bool_bool : kitB "bool" "bool" = some true := by decide +kernel
theorem kb_bool_str : kitB "bool" "str" = some false := by decide +kernel
theorem kb_bool_tuple : kitB "bool" "tuple" = some false := by decide +kernel
theorem kb_bool_list : kitB "bool" "list" = some false := by decide +kernel
theorem kb_bool_dict : kitB "bool" "dict" = some false := by decide +kernel
theorem kb_int_int : kitB "int" "int" = some true := by decide +kernel
theorem kb_int_bool : kitB "int" "bool" = some false := by decide +kernel
theorem kb_int_str : kitB "int" "str" = some false := by decide +kernel
theorem kb_int_tuple : kitB "int" "tuple" = some false := by decide +kernel
theorem kb_int_list : kitB "int" "list" = some false := by decide +kernel
theorem kb_int_dict : kitB "int" "dict" = some false := by decide +kernel
theorem kb_str_int : kitB "str" "int" = some false := by decide +kernel
theorem kb_str_bool : kitB "str" "bool" = some false := by decide +kernel
theorem kb_str_str : kitB "str" "str" = some true := by decide +kernel
theorem kb_str_tuple : kitB "str" "tuple" = some false := by decide +kernel
theorem kb_str_list : kitB "str" "list" = some false := by decide +kernel
theorem kb_str_dict : kitB "str" "dict" = some false := by decide +kernel
theorem kb_tuple_int : kitB "tuple" "int" = some false := by decide +kernel
theorem kb_tuple_bool : kitB "tuple" "bool" = some false := by decide +kernel
theorem kb_tuple_str : kitB "tuple" "str" = some false := by decide +kernel
theorem kb_tuple_tuple : kitB "tuple" "tuple" = some true := by decide +kernel
theorem kb_tuple_list : kitB "tuple" "list" = some false := by decide +kernel
theorem kb_tuple_dict : kitB "tuple" "dict" = some false := by decide +kernel
theorem kb_list_int : kitB "list" "int" = some false := by decide +kernel
theorem kb_list_bool : kitB "list" "bool" = some false := by decide +kernel
theorem kb_list_str : kitB "list" "str" = some false := by decide +kernel
theorem kb_list_tuple : kitB "list" "tuple" = some false := by decide +kernel
theorem kb_list_list : kitB "list" "list" = some true := by decide +kernel
theorem kb_list_dict : kitB "list" "dict" = some false := by decide +kernel
theorem kb_dict_int : kitB "dict" "int" = some false := by decide +kernel
theorem kb_dict_bool : kitB "dict" "bool" = some false := by decide +kernel
theorem kb_dict_str : kitB "dict" "str" = some false := by decide +kernel
theorem kb_dict_tuple : kitB "dict" "tuple" = some false := by decide +kernel
theorem kb_dict_list : kitB "dict" "list" = some false := by decide +kernel
theorem kb_dict_dict : kitB "dict" "dict" = some true := by decide +kernel
/-! ### what a thing is -/
def isI : Dt → Bool
  | .int _ => true
  | _ => false
def isB : Dt → Bool
  | .bl _ => true
  | _ => false
def isS : Dt → Bool
  | .str _ => true
  | _ => false
def isT : Dt → Bool
  | .tup _ => true
  | _ => false
def isL (S : Store) : Dt → Bool
  | .lst _ => true
  | .kl _ => true
  | .ref a => match S a with | some (.lst _) => true | _ => false
  | _ => false
/-- a thing whose type is a built-in one -/
def kn (S : Store) (w : Dt) : Prop := ∃ t, tyN S w = some t
theorem kI {S : Store} {w : Dt} {t : String} (h : tyN S w = some t) : kitB t "int" = some (isI w || isB w) := by
  cases w with
  | ref a =>
    unfold tyN at h
    dsimp only at h
    cases e : S a with
    | none => rw [e] at h; cases h
    | some o =>
      rw [e] at h
      cases o with
      | lst _ => cases h; simp only [kb_list_int, isI, isB, isS, isT, isL, e, Bool.or_self]
      | dK _ _ => cases h; simp only [kb_dict_int, isI, isB, isS, isT, isL, e, Bool.or_self]
      | dT _ _ => cases h; simp only [kb_dict_int, isI, isB, isS, isT, isL, e, Bool.or_self]
      | ins _ _ _ => cases h
  | _ => first
    | (cases h; done)
    | (cases h; simp only [kb_NoneType_int, kb_bool_int, kb_int_int, kb_str_int, kb_tuple_int, kb_list_int, kb_dict_int, isI, isB, isS, isT, isL, Bool.or_self, Bool.or_true, Bool.or_false, Bool.true_or, Bool.false_or])
theorem kB {S : Store} {w : Dt} {t : String} (h : tyN S w = some t) : kitB t "bool" = some (isB w) := by
  cases w with
  | ref a =>
    unfold tyN at h
    dsimp only at h
    cases e : S a with
    | none => rw [e] at h; cases h
    | some o =>
      rw [e] at h
      cases o with
      | lst _ => cases h; simp only [kb_list_bool, isI, isB, isS, isT, isL, e, Bool.or_self]
      | dK _ _ => cases h; simp only [kb_dict_bool, isI, isB, isS, isT, isL, e, Bool.or_self]
      | dT _ _ => cases h; simp only [kb_dict_bool, isI, isB, isS, isT, isL, e, Bool.or_self]
      | ins _ _ _ => cases h
  | _ => first
    | (cases h; done)
    | (cases h; simp only [kb_NoneType_bool, kb_bool_bool, kb_int_bool, kb_str_bool, kb_tuple_bool, kb_list_bool, kb_dict_bool, isI, isB, isS, isT, isL, Bool.or_self, Bool.or_true, Bool.or_false, Bool.true_or, Bool.false_or])
theorem kS {S : Store} {w : Dt} {t : String} (h : tyN S w = some t) : kitB t "str" = some (isS w) := by
  cases w with
  | ref a =>
    unfold tyN at h
    dsimp only at h
    cases e : S a with
    | none => rw [e] at h; cases h
    | some o =>
      rw [e] at h
      cases o with
      | lst _ => cases h; simp only [kb_list_str, isI, isB, isS, isT, isL, e, Bool.or_self]
      | dK _ _ => cases h; simp only [kb_dict_str, isI, isB, isS, isT, isL, e, Bool.or_self]
      | dT _ _ => cases h; simp only [kb_dict_str, isI, isB, isS, isT, isL, e, Bool.or_self]
      | ins _ _ _ => cases h
  | _ => first
    | (cases h; done)
    | (cases h; simp only [kb_NoneType_str, kb_bool_str, kb_int_str, kb_str_str, kb_tuple_str, kb_list_str, kb_dict_str, isI, isB, isS, isT, isL, Bool.or_self, Bool.or_true, Bool.or_false, Bool.true_or, Bool.false_or])
theorem kT {S : Store} {w : Dt} {t : String} (h : tyN S w = some t) : kitB t "tuple" = some (isT w) := by
  cases w with
  | ref a =>
    unfold tyN at h
    dsimp only at h
    cases e : S a with
    | none => rw [e] at h; cases h
    | some o =>
      rw [e] at h
      cases o with
      | lst _ => cases h; simp only [kb_list_tuple, isI, isB, isS, isT, isL, e, Bool.or_self]
      | dK _ _ => cases h; simp only [kb_dict_tuple, isI, isB, isS, isT, isL, e, Bool.or_self]
      | dT _ _ => cases h; simp only [kb_dict_tuple, isI, isB, isS, isT, isL, e, Bool.or_self]
      | ins _ _ _ => cases h
  | _ => first
    | (cases h; done)
    | (cases h; simp only [kb_NoneType_tuple, kb_bool_tuple, kb_int_tuple, kb_str_tuple, kb_tuple_tuple, kb_list_tuple, kb_dict_tuple, isI, isB, isS, isT, isL, Bool.or_self, Bool.or_true, Bool.or_false, Bool.true_or, Bool.false_or])
theorem kL {S : Store} {w : Dt} {t : String} (h : tyN S w = some t) : kitB t "list" = some (isL S w) := by
  cases w with
  | ref a =>
    unfold tyN at h
    dsimp only at h
    cases e : S a with
    | none => rw [e] at h; cases h
    | some o =>
      rw [e] at h
      cases o with
      | lst _ => cases h; simp only [kb_list_list, isI, isB, isS, isT, isL, e, Bool.or_self]
      | dK _ _ => cases h; simp only [kb_dict_list, isI, isB, isS, isT, isL, e, Bool.or_self]
      | dT _ _ => cases h; simp only [kb_dict_list, isI, isB, isS, isT, isL, e, Bool.or_self]
      | ins _ _ _ => cases h
  | _ => first
    | (cases h; done)
    | (cases h; simp only [kb_NoneType_list, kb_bool_list, kb_int_list, kb_str_list, kb_tuple_list, kb_list_list, kb_dict_list, isI, isB, isS, isT, isL, Bool.or_self, Bool.or_true, Bool.or_false, Bool.true_or, Bool.false_or])
section
variable {X : Cx} {E : WX}
theorem chain_weak {ma mb mc : ME} {g g' : Op2} {K : Frg} {σv : L2.St} {H : Hp} {Qv : VK} (q : rdE K E (mChain g g' ma mb mc) σv H Qv) : tChain (rd2 K g) (rd2 K g') (rdE K E ma) (rdE K E mb) (rdE K E mc) σv H Qv := by
  obtain ⟨P, S, σ, Q, Ex, W, r, m, nq, nx⟩ := q
  refine ⟨P, S, σ, _, Ex, W, r, m, fun v H1 w S1 W1 r1 e1 m1 => ?_, nx⟩
  refine ⟨P, S1, σ, _, Ex, W1, r.mono e1, m1, fun v2 H2 w2 S2 W2 r2 e2 m2 => ?_, nx.after e1⟩
  refine ⟨P, S2, w, w2, _, W2, r1.mono e2, r2, m2, fun v3 H3 w3 S3 W3 r3 e3 m3 => ?_⟩
  split at m3
  · rw [rp_bl] at r3
    refine ⟨true, r3, ?_⟩
    refine ⟨P, S3, σ, _, Ex, W3, r.mono ((e1.trans e2).trans e3), m3, fun v4 H4 w4 S4 W4 r4 e4 m4 => ?_, nx.after ((e1.trans e2).trans e3)⟩
    exact ⟨P, S4, w2, w4, Q, W4, r2.mono (e3.trans e4), r4, m4, nq.after (((e1.trans e2).trans e3).trans e4)⟩
  · rw [rp_bl] at r3
    exact ⟨false, r3, nq (.bl false) H3 (.bl false) S3 W3 rpBl ((e1.trans e2).trans e3) m3⟩
  · exact m3.elim
theorem je_chain {a b c : Expr} {ma mb mc : ME} {pos : Pos} {op op' : CmpOp} {g g' : Op2} (ho : OpR X (compareOp op) (rd2 X.K g)) (ho' : OpR X (compareOp op') (rd2 X.K g')) (ha : JE X E a ma) (hb : JE X E b mb) (hc : JE X E c mc)
    (h1 : lastMarks [op, op'] [b, c] = false := by with_unfolding_all rfl) : JE X E (.Compare a [op, op'] [b, c] pos) (mChain g g' ma mb mc) := PE.weak (pe_chain ho ho' ha hb hc h1) fun σv H Qv q => chain_weak q
/-- {} -/
def mDict0 : ME := fun _ S Q _ => Q (.dK [] []) S
theorem je_dict0 {pos : Pos} : JE X E (.Dict [] [] pos) mDict0 := PE.weak pe_dnewK fun σv H Qv q => by
  obtain ⟨P, S, σ, Q, Ex, W, r, m, nq, nx⟩ := q
  intro p hp
  refine nq _ _ (.dK [] []) S (W.new hp) ?_ (Evo.new hp) m
  unfold Rp
  exact ⟨p, [], rfl, Fz.new W hp, rfl, RpL.nil⟩
end
theorem w1 {ws : List Dt} (h : ws.length = 1) : ∃ a, ws = [a] := by
  cases ws with
  | nil => cases h
  | cons a r => cases r with
    | nil => exact ⟨a, rfl⟩
    | cons b r => simp at h
theorem w2 {ws : List Dt} (h : ws.length = 2) : ∃ a b, ws = [a, b] := by
  cases ws with
  | nil => cases h
  | cons a r =>
    obtain ⟨b, rfl⟩ := w1 (ws := r) (by simpa using h)
    exact ⟨a, b, rfl⟩
theorem w3 {ws : List Dt} (h : ws.length = 3) : ∃ a b c, ws = [a, b, c] := by
  cases ws with
  | nil => cases h
  | cons a r =>
    obtain ⟨b, c, rfl⟩ := w2 (ws := r) (by simpa using h)
    exact ⟨a, b, c, rfl⟩
theorem w4 {ws : List Dt} (h : ws.length = 4) : ∃ a b c d, ws = [a, b, c, d] := by
  cases ws with
  | nil => cases h
  | cons a r =>
    obtain ⟨b, c, d, rfl⟩ := w3 (ws := r) (by simpa using h)
    exact ⟨a, b, c, d, rfl⟩
theorem st_len {n : Nat} {ws : List Dt} : startW n ws = ws.map some ++ List.replicate (n - ws.length) none := rfl
end Dn

namespace Dn
open PySem PySem.Spec PyProof.Rows L2
/-! ### loops by invariants -/
theorem forW_at {g : MG} {body : MS} {gd : Store → Prop} {D : EndsW} {all : List Dt} (I : Nat → Env → Store → Prop)
    (hs : ∀ (i : Nat) (w : Dt) (σ : Env) (S : Store) (N : Env → Store → Prop), all[i]? = some w → I i σ S → (∀ σ' S', I (i + 1) σ' S' → N σ' S') → gd S ∧ g w σ S (fun σ1 S1 => body { D with nx := N, ct := N, bk := D.nx } σ1 S1) D.ex)
    (he : ∀ σ S, I all.length σ S → gd S ∧ D.nx σ S) : ∀ (ws : List Dt) (i : Nat) (σ : Env) (S : Store), ws = all.drop i → i ≤ all.length → I i σ S → forW g body gd D ws σ S
  | [], i, σ, S, e, hi, h => by
    unfold forW
    have : all.length ≤ i := by
      have := congrArg List.length e
      simp at this
      omega
    have ei : i = all.length := by omega
    rw [ei] at h
    exact he σ S h
  | w :: ws, i, σ, S, e, hi, h => by
    unfold forW
    have ew : all[i]? = some w := by
      have := congrArg List.head? e
      rw [List.head?_cons, List.head?_drop] at this
      exact this.symm
    have hl : i < all.length := (List.getElem?_eq_some_iff.mp ew).1
    have e2 : ws = all.drop (i + 1) := by
      have := congrArg List.tail e
      rw [List.tail_cons, List.tail_drop] at this
      exact this
    exact hs i w σ S _ ew h fun σ' S' h' => forW_at I hs he ws (i + 1) σ' S' e2 hl h'
theorem forW_rule {g : MG} {body : MS} {gd : Store → Prop} {D : EndsW} {ws : List Dt} {σ : Env} {S : Store} (I : Nat → Env → Store → Prop) (h0 : I 0 σ S)
    (hs : ∀ (i : Nat) (w : Dt) (σ : Env) (S : Store) (N : Env → Store → Prop), ws[i]? = some w → I i σ S → (∀ σ' S', I (i + 1) σ' S' → N σ' S') → gd S ∧ g w σ S (fun σ1 S1 => body { D with nx := N, ct := N, bk := D.nx } σ1 S1) D.ex)
    (he : ∀ σ S, I ws.length σ S → gd S ∧ D.nx σ S) : loopW g body gd D ws σ S := by
  rw [loopW_eq]
  exact forW_at I hs he ws 0 σ S rfl (Nat.zero_le _) h0
theorem whileN_rule {mt : MT} {body : MS} {D : EndsW} (I : Nat → Env → Store → Prop)
    (hs : ∀ (m : Nat) (σ : Env) (S : Store) (N : Env → Store → Prop), I m σ S → (∀ m' σ' S', m' < m → I m' σ' S' → N σ' S') → mt σ S (fun b S1 => br b (body { D with nx := N, ct := N, bk := D.nx } σ S1) (D.nx σ S1)) (fun x S' => D.ex x σ S')) :
    ∀ (n m : Nat) (σ : Env) (S : Store), m < n → I m σ S → whileN mt body D n σ S
  | 0, m, σ, S, h, _ => by omega
  | n + 1, m, σ, S, h, hi => by
    unfold whileN
    exact hs m σ S _ hi fun m' σ' S' h' hi' => whileN_rule I hs n m' σ' S' (by omega) hi'
theorem mWhile_rule {mt : MT} {body : MS} {D : EndsW} {σ : Env} {S : Store} (I : Nat → Env → Store → Prop) (m : Nat) (h0 : I m σ S)
    (hs : ∀ (m : Nat) (σ : Env) (S : Store) (N : Env → Store → Prop), I m σ S → (∀ m' σ' S', m' < m → I m' σ' S' → N σ' S') → mt σ S (fun b S1 => br b (body { D with nx := N, ct := N, bk := D.nx } σ S1) (D.nx σ S1)) (fun x S' => D.ex x σ S')) : mWhile mt body D σ S :=
  ⟨m + 1, whileN_rule I hs (m + 1) m σ S (Nat.lt_succ_self m) h0⟩
/-! ### tests that are comparisons; items at written places -/
section
variable {X : Cx} {E : WX}
def mTst (m : ME) : MT := fun σ S Q Ex => m σ S (fun w S1 => match w with | .bl b => Q b S1 | _ => False) Ex
theorem jt_cmp {a b : Expr} {ma mb : ME} {pos : Pos} {op : CmpOp} {g : Op2} (ho : OpR X (compareOp op) (rd2 X.K g)) (ha : JE X E a ma) (hb : JE X E b mb) (hm : behindInMarks op b = false) : JT X E (.Compare a [op] [b] pos) (mTst (mOp g ma mb)) := PT.weak (pt_cmpR ho ha hb hm) fun σv H Qv q => by
  have q' : rdE X.K E (mOp g ma mb) σv H (fun x H' => ∃ k, x = .bl k ∧ Qv k H') := by
    obtain ⟨P, S, σ, Q, Ex, W, r, m, nq, nx⟩ := q
    refine ⟨P, S, σ, _, Ex, W, r, m, fun v H1 w S1 W1 r1 e1 m1 => ?_, nx⟩
    dsimp only at m1
    split at m1
    · rw [rp_bl] at r1
      exact ⟨_, r1, nq _ H1 S1 W1 e1 m1⟩
    · exact m1.elim
  exact op_weak q'
theorem jt_chain {a b c : Expr} {ma mb mc : ME} {pos : Pos} {op op' : CmpOp} {g g' : Op2} (ho : OpR X (compareOp op) (rd2 X.K g)) (ho' : OpR X (compareOp op') (rd2 X.K g')) (ha : JE X E a ma) (hb : JE X E b mb) (hc : JE X E c mc)
    (h1 : lastMarks [op, op'] [b, c] = false := by with_unfolding_all rfl) : JT X E (.Compare a [op, op'] [b, c] pos) (mTst (mChain g g' ma mb mc)) := PT.weak (pt_chain ho ho' ha hb hc h1) fun σv H Qv q => by
  have q' : rdE X.K E (mChain g g' ma mb mc) σv H (fun x H' => ∃ k, x = .bl k ∧ Qv k H') := by
    obtain ⟨P, S, σ, Q, Ex, W, r, m, nq, nx⟩ := q
    refine ⟨P, S, σ, _, Ex, W, r, m, fun v H1 w S1 W1 r1 e1 m1 => ?_, nx⟩
    dsimp only at m1
    split at m1
    · rw [rp_bl] at r1
      exact ⟨_, r1, nq _ H1 S1 W1 e1 m1⟩
    · exact m1.elim
  exact chain_weak q'
end
theorem at_0 {α : Type} {a : α} {r : List α} : atI (a :: r) 0 = some a := by
  unfold atI
  rw [show ixN (a :: r).length 0 = some 0 from by unfold ixN; rw [if_pos (by decide), if_pos (by simp only [List.length_cons]; omega)]; rfl]
  rfl
theorem at_1 {α : Type} {a b : α} {r : List α} : atI (a :: b :: r) 1 = some b := by
  unfold atI
  rw [show ixN (a :: b :: r).length 1 = some 1 from by unfold ixN; rw [if_pos (by decide), if_pos (by simp only [List.length_cons]; omega)]; rfl]
  rfl
theorem at_2 {α : Type} {a b c : α} {r : List α} : atI (a :: b :: c :: r) 2 = some c := by
  unfold atI
  rw [show ixN (a :: b :: c :: r).length 2 = some 2 from by unfold ixN; rw [if_pos (by decide), if_pos (by simp only [List.length_cons]; omega)]; rfl]
  rfl
theorem at_3 {α : Type} {a b c d : α} {r : List α} : atI (a :: b :: c :: d :: r) 3 = some d := by
  unfold atI
  rw [show ixN (a :: b :: c :: d :: r).length 3 = some 3 from by unfold ixN; rw [if_pos (by decide), if_pos (by simp only [List.length_cons]; omega)]; rfl]
  rfl
theorem at_4 {α : Type} {a b c d e : α} {r : List α} : atI (a :: b :: c :: d :: e :: r) 4 = some e := by
  unfold atI
  rw [show ixN (a :: b :: c :: d :: e :: r).length 4 = some 4 from by unfold ixN; rw [if_pos (by decide), if_pos (by simp only [List.length_cons]; omega)]; rfl]
  rfl
theorem at_5 {α : Type} {a b c d e f : α} {r : List α} : atI (a :: b :: c :: d :: e :: f :: r) 5 = some f := by
  unfold atI
  rw [show ixN (a :: b :: c :: d :: e :: f :: r).length 5 = some 5 from by unfold ixN; rw [if_pos (by decide), if_pos (by simp only [List.length_cons]; omega)]; rfl]
  rfl
theorem at_6 {α : Type} {a b c d e f g : α} {r : List α} : atI (a :: b :: c :: d :: e :: f :: g :: r) 6 = some g := by
  unfold atI
  rw [show ixN (a :: b :: c :: d :: e :: f :: g :: r).length 6 = some 6 from by unfold ixN; rw [if_pos (by decide), if_pos (by simp only [List.length_cons]; omega)]; rfl]
  rfl
theorem at_7 {α : Type} {a b c d e f g h : α} {r : List α} : atI (a :: b :: c :: d :: e :: f :: g :: h :: r) 7 = some h := by
  unfold atI
  rw [show ixN (a :: b :: c :: d :: e :: f :: g :: h :: r).length 7 = some 7 from by unfold ixN; rw [if_pos (by decide), if_pos (by simp only [List.length_cons]; omega)]; rfl]
  rfl
theorem at_8 {α : Type} {a b c d e f g h i : α} {r : List α} : atI (a :: b :: c :: d :: e :: f :: g :: h :: i :: r) 8 = some i := by
  unfold atI
  rw [show ixN (a :: b :: c :: d :: e :: f :: g :: h :: i :: r).length 8 = some 8 from by unfold ixN; rw [if_pos (by decide), if_pos (by simp only [List.length_cons]; omega)]; rfl]
  rfl
theorem at_9 {α : Type} {a b c d e f g h i j : α} {r : List α} : atI (a :: b :: c :: d :: e :: f :: g :: h :: i :: j :: r) 9 = some j := by
  unfold atI
  rw [show ixN (a :: b :: c :: d :: e :: f :: g :: h :: i :: j :: r).length 9 = some 9 from by unfold ixN; rw [if_pos (by decide), if_pos (by simp only [List.length_cons]; omega)]; rfl]
  rfl
theorem ix_1_0 : ixN 1 0 = some 0 := rfl
theorem ix_2_0 : ixN 2 0 = some 0 := rfl
theorem ix_2_1 : ixN 2 1 = some 1 := rfl
theorem ix_3_0 : ixN 3 0 = some 0 := rfl
theorem ix_3_1 : ixN 3 1 = some 1 := rfl
theorem ix_3_2 : ixN 3 2 = some 2 := rfl
theorem ix_4_0 : ixN 4 0 = some 0 := rfl
theorem ix_4_1 : ixN 4 1 = some 1 := rfl
theorem ix_4_2 : ixN 4 2 = some 2 := rfl
theorem ix_4_3 : ixN 4 3 = some 3 := rfl
theorem ix_5_0 : ixN 5 0 = some 0 := rfl
theorem ix_5_1 : ixN 5 1 = some 1 := rfl
theorem ix_5_2 : ixN 5 2 = some 2 := rfl
theorem ix_5_3 : ixN 5 3 = some 3 := rfl
theorem ix_5_4 : ixN 5 4 = some 4 := rfl
theorem ix_6_0 : ixN 6 0 = some 0 := rfl
theorem ix_6_1 : ixN 6 1 = some 1 := rfl
theorem ix_6_2 : ixN 6 2 = some 2 := rfl
theorem ix_6_3 : ixN 6 3 = some 3 := rfl
theorem ix_6_4 : ixN 6 4 = some 4 := rfl
theorem ix_6_5 : ixN 6 5 = some 5 := rfl
/-- a cut behind a statement: what follows is shown once -/
def mCut (m1 m2 : MS) : MS := fun D σ S => ∃ M : Env → Store → Prop, m1 { D with nx := M } σ S ∧ ∀ σ' S', M σ' S' → m2 D σ' S'
theorem jss_cut {X : Cx} {E : WX} {st : Stmt} {rest : List Stmt} {m1 m2 : MS} (h1 : JS X E st m1) (h2 : JSs X E rest m2) : JSs X E (st :: rest) (mCut m1 m2) := PSs.weak (pss_cons h1 h2) fun σv H D q => by
  obtain ⟨P, S, σ, Dw, W, r, ⟨M, m, k⟩, d⟩ := q
  exact ⟨P, S, σ, _, W, r, m, fun σv' H' σ' S' W' r' e' q' => ⟨P, S', σ', Dw, W', r', k σ' S' q', d.after e'⟩, d.rt, d.bk, d.ct, d.ex⟩
/-- a comprehension whose element is a plain function of the item -/
theorem comp_map {b : BW} {me : ME} {σ : Env} {vs : List Nat} {Q : List Dt → Store → Prop} {S : Store} (f : Dt → Dt) : ∀ (ws acc : List Dt),
    (∀ w ∈ ws, ∃ σ1, b w (wipeW σ vs) = some σ1 ∧ ∀ k : Dt → Store → Prop, k (f w) S → me σ1 S k (fun _ _ => False)) → acc.length + ws.length ≤ sizeLine → Q (acc ++ ws.map f) S → compW b mYes me σ vs (fun _ => True) Q ws acc S
  | [], acc, _, _, q => by
    unfold compW
    rw [List.map_nil, List.append_nil] at q
    exact ⟨trivial, q⟩
  | w :: ws, acc, h, hl, q => by
    unfold compW
    refine ⟨trivial, ?_⟩
    obtain ⟨σ1, e, hm⟩ := h w List.mem_cons_self
    rw [e]
    show mYes σ1 S _ _
    unfold mYes
    rw [List.length_cons] at hl
    refine hm _ ⟨by omega, comp_map f ws (acc ++ [f w]) (fun w' h' => h w' (List.mem_cons_of_mem _ h')) (by rw [List.length_append, List.length_singleton]; omega) ?_⟩
    rw [List.append_assoc]
    exact q
/-- .. with a test -/
theorem comp_filter {b : BW} {mt : MT} {me : ME} {σ : Env} {vs : List Nat} {Q : List Dt → Store → Prop} {S : Store} (p : Dt → Bool) (f : Dt → Dt) : ∀ (ws acc : List Dt),
    (∀ w ∈ ws, ∃ σ1, b w (wipeW σ vs) = some σ1 ∧ (∀ k : Bool → Store → Prop, k (p w) S → mt σ1 S k (fun _ _ => False)) ∧ (p w = true → ∀ k : Dt → Store → Prop, k (f w) S → me σ1 S k (fun _ _ => False))) →
    acc.length + ws.length ≤ sizeLine → Q (acc ++ (ws.filter p).map f) S → compW b mt me σ vs (fun _ => True) Q ws acc S
  | [], acc, _, _, q => by
    unfold compW
    rw [List.filter_nil, List.map_nil, List.append_nil] at q
    exact ⟨trivial, q⟩
  | w :: ws, acc, h, hl, q => by
    unfold compW
    refine ⟨trivial, ?_⟩
    obtain ⟨σ1, e, ht, hm⟩ := h w List.mem_cons_self
    rw [e]
    rw [List.length_cons] at hl
    refine ht _ ?_
    by_cases hp : p w = true
    · rw [hp]
      refine hm hp _ ⟨by omega, comp_filter p f ws (acc ++ [f w]) (fun w' h' => h w' (List.mem_cons_of_mem _ h')) (by rw [List.length_append, List.length_singleton]; omega) ?_⟩
      rw [List.filter_cons_of_pos hp] at q
      rw [List.append_assoc]
      exact q
    · rw [Bool.not_eq_true] at hp
      rw [hp]
      refine comp_filter p f ws acc (fun w' h' => h w' (List.mem_cons_of_mem _ h')) (by omega) ?_
      rw [List.filter_cons_of_neg (by rw [hp]; exact Bool.false_ne_true)] at q
      exact q
/-- plain data: no class, no instance, nothing that is changed -/
def pl : Dt → Bool
  | .non | .bl _ | .int _ | .str _ => true
  | .tup ws => plL ws
  | .lst ws => plL ws
  | .dK _ ws => plL ws
  | .dT _ ws => plL ws
  | _ => false
where plL : List Dt → Bool
  | [] => true
  | w :: ws => pl w && plL ws
theorem plL_all : ∀ {ws : List Dt}, pl.plL ws = true → ∀ w ∈ ws, pl w = true
  | [], _, w, h => by cases h
  | a :: ws, e, w, h => by
    unfold pl.plL at e
    rw [Bool.and_eq_true] at e
    rcases List.mem_cons.mp h with rfl | h
    · exact e.1
    · exact plL_all e.2 w h
theorem plL_of : ∀ {ws : List Dt}, (∀ w ∈ ws, pl w = true) → pl.plL ws = true
  | [], _ => rfl
  | a :: ws, h => by
    unfold pl.plL
    rw [h a List.mem_cons_self, plL_of fun w q => h w (List.mem_cons_of_mem _ q)]
    rfl
theorem kn_pl {S : Store} {w : Dt} (h : pl w = true) : kn S w := by
  cases w <;> first | exact ⟨_, rfl⟩ | (unfold pl at h; cases h)
theorem pl_tup {ws : List Dt} (h : pl (.tup ws) = true) : ∀ w ∈ ws, pl w = true := by unfold pl at h; exact plL_all h
theorem pl_tup_of {ws : List Dt} (h : ∀ w ∈ ws, pl w = true) : pl (.tup ws) = true := by unfold pl; exact plL_of h
theorem pl_ints (bs : List Int) : pl (.tup (bs.map Dt.int)) = true := pl_tup_of fun w h => by
  obtain ⟨i, _, rfl⟩ := List.mem_map.mp h
  rfl
/-! ### what a law tells by its own comparison -/
mutual
def sameW : Dt → Dt → Bool
  | a, .non => isNon a
  | a, .bl b => isBlW a b
  | .int i, .int j => decide (i = j)
  | .str x, .str y => decide (x = y)
  | .tup as, .tup bs => sameL as bs
  | .lst as, .lst bs => sameL as bs
  | _, _ => false
def sameL : List Dt → List Dt → Bool
  | [], [] => true
  | a :: as, b :: bs => sameW a b && sameL as bs
  | _, _ => false
end
def nice : Dt → Bool
  | .non | .bl _ | .int _ | .str _ => true
  | .tup ws => niceL ws
  | .lst ws => niceL ws
  | _ => false
where niceL : List Dt → Bool
  | [] => true
  | w :: ws => nice w && niceL ws
def dep : Dt → Nat
  | .tup ws => 1 + depL ws
  | .lst ws => 1 + depL ws
  | _ => 0
where depL : List Dt → Nat
  | [] => 0
  | w :: ws => max (dep w) (depL ws)
mutual
theorem sameW_self : ∀ {w : Dt}, nice w = true → sameW w w = true
  | .non, _ => by unfold sameW; rfl
  | .bl b, _ => by unfold sameW isBlW; cases b <;> rfl
  | .int i, _ => by unfold sameW; exact decide_eq_true rfl
  | .str i, _ => by unfold sameW; exact decide_eq_true rfl
  | .tup ws, h => by unfold sameW; unfold nice at h; exact sameL_self h
  | .lst ws, h => by unfold sameW; unfold nice at h; exact sameL_self h
  | .kl _, h => by unfold nice at h; cases h
  | .ty _, h => by unfold nice at h; cases h
  | .ins _ _ _, h => by unfold nice at h; cases h
  | .dK _ _, h => by unfold nice at h; cases h
  | .dT _ _, h => by unfold nice at h; cases h
  | .exn _ _ _ _, h => by unfold nice at h; cases h
  | .ref _, h => by unfold nice at h; cases h
theorem sameL_self : ∀ {ws : List Dt}, nice.niceL ws = true → sameL ws ws = true
  | [], _ => by unfold sameL; rfl
  | w :: ws, h => by
    unfold nice.niceL at h
    rw [Bool.and_eq_true] at h
    unfold sameL
    rw [sameW_self h.1, sameL_self h.2]
    rfl
end
theorem sameL_len : ∀ {as bs : List Dt}, as.length ≠ bs.length → sameL as bs = false
  | [], [], h => absurd rfl h
  | [], _ :: _, _ => by unfold sameL; rfl
  | _ :: _, [], _ => by unfold sameL; rfl
  | a :: as, b :: bs, h => by
    unfold sameL
    rw [sameL_len (as := as) (bs := bs) fun e => h (by rw [List.length_cons, List.length_cons, e]), Bool.and_false]
theorem sameL_at : ∀ {as bs : List Dt} {i : Nat} {x y : Dt}, as[i]? = some x → bs[i]? = some y → sameW x y = false → sameL as bs = false
  | [], _, i, x, y, h, _, _ => by simp at h
  | _ :: _, [], i, x, y, _, h, _ => by simp at h
  | a :: as, b :: bs, 0, x, y, h1, h2, h => by
    simp at h1 h2
    subst h1 h2
    unfold sameL
    rw [h, Bool.false_and]
  | a :: as, b :: bs, i + 1, x, y, h1, h2, h => by
    unfold sameL
    rw [sameL_at (i := i) (by simpa using h1) (by simpa using h2) h, Bool.and_false]
theorem sameL_all : ∀ {as bs : List Dt}, as.length = bs.length → (∀ (i : Nat) (x y : Dt), as[i]? = some x → bs[i]? = some y → sameW x y = true) → sameL as bs = true
  | [], [], _, _ => by unfold sameL; rfl
  | [], _ :: _, h, _ => by simp at h
  | _ :: _, [], h, _ => by simp at h
  | a :: as, b :: bs, h, k => by
    unfold sameL
    rw [k 0 a b rfl rfl, sameL_all (as := as) (bs := bs) (by simpa using h) fun i x y h1 h2 => k (i + 1) x y (by simpa using h1) (by simpa using h2)]
    rfl
theorem niceL_at : ∀ {ws : List Dt} {i : Nat} {w : Dt}, nice.niceL ws = true → ws[i]? = some w → nice w = true ∧ dep w ≤ dep.depL ws
  | [], i, w, _, h => by simp at h
  | a :: ws, 0, w, h, e => by
    unfold nice.niceL at h
    rw [Bool.and_eq_true] at h
    simp at e
    subst e
    unfold dep.depL
    exact ⟨h.1, Nat.le_max_left _ _⟩
  | a :: ws, i + 1, w, h, e => by
    unfold nice.niceL at h
    rw [Bool.and_eq_true] at h
    have := niceL_at (i := i) h.2 (by simpa using e)
    unfold dep.depL
    exact ⟨this.1, Nat.le_trans this.2 (Nat.le_max_right _ _)⟩
theorem cal_false {P : Program} {w : World} {K : Frg} {mg : Str → Option Value} {base : Heap} {x : Str} {st : Stmt} {ps : List Str} {k n : Nat} (D : Dfn K mg x st ps) : Cal P w K mg base x k ps n (fun _ _ _ _ => False) :=
  let ⟨f, fd, a, F, b⟩ := D
  ⟨f, fd, a, F.kp, b, ⟨fun _ _ _ _ ⟨_, _, _, _, _, _, _, _, g, _⟩ => g.elim, fun _ _ _ _ _ _ _ _ _ _ _ _ _ ⟨_, _, _, _, _, _, _, _, g, _⟩ => g.elim⟩⟩
/-- a number within bounds -/
def inW : Dt → Int → Int → Bool
  | .int i, lo, hi => decide (lo ≤ i) && decide (i ≤ hi)
  | _, _, _ => false
/-- a row of bytes -/
def rowW : Dt → Bool
  | .tup xs => decide (xs.length ≤ 300000) && xs.all (inW · 0 255)
  | _ => false
theorem rowW_of {w : Dt} (h : rowW w = true) : ∃ bs : List Int, w = .tup (bs.map Dt.int) ∧ bs.length ≤ 300000 ∧ ∀ b ∈ bs, 0 ≤ b ∧ b ≤ 255 := by
  cases w with
  | tup xs =>
    unfold rowW at h
    rw [Bool.and_eq_true] at h
    obtain ⟨h1, h2⟩ := h
    have : ∀ xs : List Dt, xs.all (inW · 0 255) = true → ∃ bs : List Int, xs = bs.map Dt.int ∧ ∀ b ∈ bs, 0 ≤ b ∧ b ≤ 255 := by
      intro xs
      induction xs with
      | nil => exact fun _ => ⟨[], rfl, fun b h => by cases h⟩
      | cons x xs ih =>
        intro h
        rw [List.all_cons, Bool.and_eq_true] at h
        obtain ⟨bs, e, hb⟩ := ih h.2
        cases x with
        | int i =>
          have hi := h.1
          unfold inW at hi
          rw [Bool.and_eq_true] at hi
          refine ⟨i :: bs, by rw [e]; rfl, fun b hb' => ?_⟩
          rcases List.mem_cons.mp hb' with rfl | hb'
          · exact ⟨of_decide_eq_true hi.1, of_decide_eq_true hi.2⟩
          · exact hb b hb'
        | _ => exact Bool.noConfusion (show false = true from h.1)
    obtain ⟨bs, e, hb⟩ := this xs h2
    refine ⟨bs, by rw [e], ?_, hb⟩
    have := of_decide_eq_true h1
    rw [e, List.length_map] at this
    exact this
  | _ => exact Bool.noConfusion (show false = true from h)
theorem rowW_ints {bs : List Int} (h1 : bs.length ≤ 300000) (h2 : ∀ b ∈ bs, 0 ≤ b ∧ b ≤ 255) : rowW (.tup (bs.map Dt.int)) = true := by
  unfold rowW
  rw [Bool.and_eq_true, List.length_map]
  refine ⟨decide_eq_true h1, List.all_eq_true.mpr fun x hx => ?_⟩
  obtain ⟨i, hi, rfl⟩ := List.mem_map.mp hx
  show (decide ((0 : Int) ≤ i) && decide (i ≤ 255)) = true
  rw [decide_eq_true (h2 i hi).1, decide_eq_true (h2 i hi).2]
  rfl
theorem sup_comm {S : Store} {a b : Addr} {o u : Ob} (h : a ≠ b) : sup (sup S a o) b u = sup (sup S b u) a o := by
  funext c
  unfold sup
  by_cases e : c = b
  · rw [if_pos e, if_neg (fun z => h (z.symm.trans e)), if_pos e]
  · by_cases e2 : c = a
    · rw [if_neg e, if_pos e2, if_pos e2]
    · rw [if_neg e, if_neg e2, if_neg e2, if_neg e]
theorem atI_mem {xs : List Dt} {i : Int} {w : Dt} (h : atI xs i = some w) : w ∈ xs := by
  unfold atI at h
  cases e : ixN xs.length i with
  | none => rw [e] at h; cases h
  | some j =>
    rw [e] at h
    exact List.mem_of_getElem? h
theorem atI_some {xs : List Dt} {i : Int} (h0 : 0 ≤ i) (h1 : i < (xs.length : Int)) : ∃ w, atI xs i = some w ∧ w ∈ xs := by
  have hl : i.toNat < xs.length := by omega
  refine ⟨xs[i.toNat], ?_, List.getElem_mem hl⟩
  unfold atI ixN
  rw [if_pos h0, if_pos h1]
  exact List.getElem?_eq_getElem hl
def bytesOf : Dt → List Int
  | .tup xs => xs.map fun x => match x with | .int i => i | _ => 0
  | _ => []
theorem bytesOf_ints (bs : List Int) : bytesOf (.tup (bs.map Dt.int)) = bs := by
  show (bs.map Dt.int).map (fun x => match x with | .int i => i | _ => 0) = bs
  rw [List.map_map]
  exact List.map_id' bs
theorem atI_ints {ns : List Int} {p : Int} (h0 : 0 ≤ p) (h : p < (ns.length : Int)) : ∃ x, atI (ns.map Dt.int) p = some (.int x) := by
  have hl : p.toNat < ns.length := by omega
  refine ⟨ns[p.toNat], ?_⟩
  unfold atI ixN
  rw [List.length_map, if_pos h0, if_pos h]
  show (ns.map Dt.int)[p.toNat]? = _
  rw [List.getElem?_map, List.getElem?_eq_getElem hl]
  rfl
theorem log_small {n : Int} (h : n.natAbs < 2 ^ 64) : n.natAbs.log2 < 9000 := by
  have := PySem.Flt.log2_lt_of (by decide : 0 < 64) h
  omega
theorem lsv_ref {S : Store} {a : Addr} {ws : List Dt} (h : S a = some (.lst ws)) : lsv S (.ref a) = some ws := by
  show (match S a with | some (.lst ws) => some ws | _ => none) = _
  rw [h]
theorem ty_lst {S : Store} {a : Addr} {ws : List Dt} (h : S a = some (.lst ws)) : tyW "list" S (.ref a) = true := by
  show (lsv S (.ref a)).isSome = true
  rw [lsv_ref h]
  rfl
theorem sup_at {S : Store} {a b : Addr} {o u : Ob} (h : a ≠ b) : sup (sup S a o) b u a = some o := by rw [sup_ne h, sup_same]
theorem sup_set {S : Store} {a b : Addr} {o u v : Ob} (h : a ≠ b) : sup (sup (sup S a o) b u) a v = sup (sup S a v) b u := by
  rw [sup_comm (Ne.symm h), sup_sup]
theorem rowW_tup (xs : List Dt) : rowW (.tup xs) = (decide (xs.length ≤ 300000) && xs.all (inW · 0 255)) := rfl
theorem cutW_take {α : Type} {xs : List α} {i : Int} (h0 : 0 ≤ i) : cutW xs none (some i) = xs.take i.toNat := by
  unfold cutW HT.sIx
  show (xs.drop 0).take ((if i < 0 then (i + (xs.length : Int)).toNat else min i.toNat xs.length) - 0) = _
  rw [if_neg (by omega), List.drop_zero, Nat.sub_zero]
  by_cases h : i.toNat ≤ xs.length
  · rw [Nat.min_eq_left h]
  · rw [Nat.min_eq_right (by omega), List.take_of_length_le (Nat.le_refl _), List.take_of_length_le (by omega)]
theorem cutW_drop {α : Type} {xs : List α} {i : Int} (h0 : 0 ≤ i) : cutW xs (some i) none = xs.drop i.toNat := by
  unfold cutW HT.sIx
  show (xs.drop (if i < 0 then (i + (xs.length : Int)).toNat else min i.toNat xs.length)).take (xs.length - (if i < 0 then (i + (xs.length : Int)).toNat else min i.toNat xs.length)) = _
  rw [if_neg (by omega), List.take_of_length_le (by rw [List.length_drop]; omega)]
  by_cases h : i.toNat ≤ xs.length
  · rw [Nat.min_eq_left h]
  · rw [Nat.min_eq_right (by omega), List.drop_of_length_le (Nat.le_refl _), List.drop_of_length_le (by omega)]
theorem ints_inj : ∀ {bs cs : List Int}, bs.map Dt.int = cs.map Dt.int → bs = cs
  | [], [], _ => rfl
  | [], _ :: _, h => nomatch h
  | _ :: _, [], h => nomatch h
  | b :: bs, c :: cs, h => by
    rw [List.map_cons, List.map_cons] at h
    injection h with h1 h2
    injection h1 with h1
    rw [h1, ints_inj h2]
theorem tup_ints_inj {bs cs : List Int} (h : Dt.tup (bs.map Dt.int) = .tup (cs.map Dt.int)) : bs = cs := by
  injection h with h
  exact ints_inj h
theorem inW_int {i lo hi : Int} (h0 : lo ≤ i) (h1 : i ≤ hi) : inW (.int i) lo hi = true := by
  show (decide (lo ≤ i) && decide (i ≤ hi)) = true
  rw [decide_eq_true h0, decide_eq_true h1]
  rfl
theorem atI_get {xs : List Dt} {i : Int} (h0 : 0 ≤ i) : atI xs i = xs[i.toNat]? := by
  unfold atI ixN
  rw [if_pos h0]
  by_cases h : i < (xs.length : Int)
  · rw [if_pos h]
    rfl
  · rw [if_neg h, List.getElem?_eq_none (by omega)]
    rfl
theorem inW_of {w : Dt} {lo hi : Int} (h : inW w lo hi = true) : ∃ i, w = .int i ∧ lo ≤ i ∧ i ≤ hi := by
  cases w with
  | int i =>
    have h : (decide (lo ≤ i) && decide (i ≤ hi)) = true := h
    rw [Bool.and_eq_true, decide_eq_true_eq, decide_eq_true_eq] at h
    exact ⟨i, rfl, h⟩
  | _ => exact Bool.noConfusion (show false = true from h)
theorem nice_ints (bs : List Int) : nice (.tup (bs.map Dt.int)) = true := by
  show nice.niceL (bs.map Dt.int) = true
  induction bs with
  | nil => rfl
  | cons b bs ih =>
    show (nice (.int b) && nice.niceL (bs.map Dt.int)) = true
    rw [ih]
    rfl
theorem depL_ints (bs : List Int) : dep.depL (bs.map Dt.int) = 0 := by
  induction bs with
  | nil => rfl
  | cons b bs ih =>
    show max (dep (.int b)) (dep.depL (bs.map Dt.int)) = 0
    rw [ih]
    rfl
theorem dep_ints (bs : List Int) : dep (.tup (bs.map Dt.int)) ≤ 1 := by
  show 1 + dep.depL (bs.map Dt.int) ≤ 1
  rw [depL_ints]
  exact Nat.le_refl _
theorem pl_pair {a b : Dt} (ha : pl a = true) (hb : pl b = true) : pl (.tup [a, b]) = true := pl_tup_of fun w h => by
  simp only [List.mem_cons, List.not_mem_nil, or_false] at h
  rcases h with rfl | rfl
  · exact ha
  · exact hb
theorem nice_pair {a b : Dt} (ha : nice a = true) (hb : nice b = true) : nice (.tup [a, b]) = true := by
  show (nice a && (nice b && true)) = true
  rw [ha, hb]
  rfl
theorem dep_pair {a b : Dt} (ha : dep a ≤ 0) (hb : dep b ≤ 1) : dep (.tup [a, b]) < 4 := by
  show 1 + max (dep a) (max (dep b) 0) < 4
  omega
theorem eqDL_ints : ∀ as bs : List Int, eqDL (as.map Dt.int) (bs.map Dt.int) = decide (as = bs)
  | [], [] => by unfold eqDL; rfl
  | [], b :: bs => by unfold eqDL; rfl
  | a :: as, [] => by unfold eqDL; rfl
  | a :: as, b :: bs => by
    rw [List.map_cons, List.map_cons]
    unfold eqDL
    rw [eqDL_ints as bs]
    unfold eqD
    by_cases h : a = b
    · by_cases h2 : as = bs <;> simp [h, h2]
    · simp [h]
theorem eqD_ints (as bs : List Int) : eqD (.tup (as.map Dt.int)) (.tup (bs.map Dt.int)) = decide (as = bs) := by
  unfold eqD
  exact eqDL_ints as bs
theorem fl_ints (k : Nat) (bs : List Int) : fl (k + 1) (.tup (bs.map Dt.int)) = true := by
  show (bs.map Dt.int).all (fl k) = true
  rw [List.all_eq_true]
  intro w hw
  obtain ⟨i, _, rfl⟩ := List.mem_map.mp hw
  cases k <;> rfl
/-- a comprehension whose element is taken from a store that moves -/
theorem comp_move {b : BW} {me : ME} {σ : Env} {vs : List Nat} {Q : List Dt → Store → Prop} (I : Nat → List Dt → Store → Prop) {all : List Dt} :
    ∀ (ws : List Dt) (i : Nat) (acc : List Dt) (S : Store), ws = all.drop i → i ≤ all.length → acc.length = i → all.length ≤ sizeLine → I i acc S →
    (∀ (i : Nat) (w : Dt) (acc : List Dt) (S : Store), all[i]? = some w → I i acc S → ∃ σ1, b w (wipeW σ vs) = some σ1 ∧ ∀ k : Dt → Store → Prop, (∀ y S', I (i + 1) (acc ++ [y]) S' → k y S') → me σ1 S k (fun _ _ => False)) →
    (∀ acc S, I all.length acc S → Q acc S) → compW b mYes me σ vs (fun _ => True) Q ws acc S
  | [], i, acc, S, e, hi, ha, hz, h0, hs, he => by
    unfold compW
    have : all.length ≤ i := by
      have := congrArg List.length e
      rw [List.length_nil, List.length_drop] at this
      omega
    have e2 : i = all.length := by omega
    subst e2
    exact ⟨trivial, he acc S h0⟩
  | w :: ws, i, acc, S, e, hi, ha, hz, h0, hs, he => by
    unfold compW
    refine ⟨trivial, ?_⟩
    have hl : i < all.length := by
      have := congrArg List.length e
      rw [List.length_cons, List.length_drop] at this
      omega
    have hd := List.drop_eq_getElem_cons hl
    rw [← e] at hd
    injection hd with h1 h2
    obtain ⟨σ1, eb, hm⟩ := hs i w acc S (by rw [List.getElem?_eq_getElem hl, ← h1]) h0
    rw [eb]
    show mYes σ1 S _ _
    unfold mYes
    exact hm _ fun y S' h' => ⟨by omega, comp_move I ws (i + 1) (acc ++ [y]) S' h2 (by omega) (by rw [List.length_append, ha]; rfl) hz h' hs he⟩
theorem cutW_mid {α : Type} {xs : List α} {lo hi : Int} (h0 : 0 ≤ lo) (h1 : lo ≤ hi) : cutW xs (some lo) (some hi) = (xs.drop lo.toNat).take (hi - lo).toNat := by
  unfold cutW HT.sIx
  show (xs.drop (if lo < 0 then (lo + (xs.length : Int)).toNat else min lo.toNat xs.length)).take ((if hi < 0 then (hi + (xs.length : Int)).toNat else min hi.toNat xs.length) - (if lo < 0 then (lo + (xs.length : Int)).toNat else min lo.toNat xs.length)) = _
  rw [if_neg (by omega), if_neg (by omega)]
  by_cases h : lo.toNat ≤ xs.length
  · rw [Nat.min_eq_left h]
    by_cases h2 : hi.toNat ≤ xs.length
    · rw [Nat.min_eq_left h2]
      congr 1
      omega
    · rw [Nat.min_eq_right (by omega), List.take_of_length_le (by rw [List.length_drop]; omega), List.take_of_length_le (by rw [List.length_drop]; omega)]
  · rw [show min lo.toNat xs.length = xs.length by omega, List.drop_of_length_le (Nat.le_refl _), List.drop_of_length_le (by omega), List.take_nil, List.take_nil]
theorem cutW_ints {bs : List Int} {a n : Nat} {m : Int} (hm : m = (n : Int)) : cutW (bs.map Dt.int) (some (a : Int)) (some ((a : Int) + m)) = ((bs.drop a).take n).map Dt.int := by
  subst hm
  rw [cutW_mid (by omega) (by omega), show ((a : Int) + (n : Int) - (a : Int)).toNat = n by omega, List.map_take, List.map_drop, Int.toNat_natCast]
theorem eqD_pair (a b c d : Dt) : eqD (.tup [a, b]) (.tup [c, d]) = (eqD a c && eqD b d) := by
  show eqDL [a, b] [c, d] = _
  show (eqD a c && (eqD b d && eqDL [] [])) = _
  rw [show eqDL [] [] = true from rfl, Bool.and_true]
theorem fl_pair {k : Nat} {a b : Dt} (ha : fl k a = true) (hb : fl k b = true) : fl (k + 1) (.tup [a, b]) = true := by
  show (fl k a && (fl k b && true)) = true
  rw [ha, hb]
  rfl
end Dn

namespace Lw
open PySem PySem.Spec PyProof.Rows L2 Dn
/-! ### the text -/
def topS (i : Nat) : Stmt := PySem.Challenge.pw_allbrought_k26_whole_changes_of_rows.main.body.getD i (.Pass ⟨0, 0, 0, 0⟩)
abbrev s__law_hand : Stmt := topS 33
abbrev N__law_hand : List Str := ["_law_script"]
theorem sc__law_hand : FnScope N__law_hand ["_law_script"] (defScope s__law_hand) := ⟨rfl, rfl, rfl, by decide +kernel, rfl, by decide +kernel, by decide +kernel⟩
abbrev s__law_take : Stmt := topS 34
abbrev N__law_take : List Str := ["_law_hand_here", "_law_many", "_law_number", "_law_cell", "_law_found"]
theorem sc__law_take : FnScope N__law_take ["_law_hand_here", "_law_many"] (defScope s__law_take) := ⟨rfl, rfl, rfl, by decide +kernel, rfl, by decide +kernel, by decide +kernel⟩
abbrev s__law_pick : Stmt := topS 35
abbrev N__law_pick : List Str := ["_law_hand_here", "_law_things"]
theorem sc__law_pick : FnScope N__law_pick ["_law_hand_here", "_law_things"] (defScope s__law_pick) := ⟨rfl, rfl, rfl, by decide +kernel, rfl, by decide +kernel, by decide +kernel⟩
abbrev s__law_bytes : Stmt := topS 42
abbrev N__law_bytes : List Str := ["_law_hand_here", "_law_most", "_law_found", "_law_k"]
theorem sc__law_bytes : FnScope N__law_bytes ["_law_hand_here", "_law_most"] (defScope s__law_bytes) := ⟨rfl, rfl, rfl, by decide +kernel, rfl, by decide +kernel, by decide +kernel⟩
abbrev s__law_figures : Stmt := topS 39
abbrev N__law_figures : List Str := ["_law_number", "_law_found", "_law_k"]
theorem sc__law_figures : FnScope N__law_figures ["_law_number"] (defScope s__law_figures) := ⟨rfl, rfl, rfl, by decide +kernel, rfl, by decide +kernel, by decide +kernel⟩
abbrev s__law_parts : Stmt := topS 43
abbrev N__law_parts : List Str := ["_law_hand_here", "_law_one", "_law_found", "_law_k", "_law_way", "_law_many", "_law_at", "_law_j"]
theorem sc__law_parts : FnScope N__law_parts ["_law_hand_here", "_law_one"] (defScope s__law_parts) := ⟨rfl, rfl, rfl, by decide +kernel, rfl, by decide +kernel, by decide +kernel⟩
abbrev s__law_number_at : Stmt := topS 40
abbrev N__law_number_at : List Str := ["_law_row", "_law_at", "_law_found", "_law_power", "_law_k", "_law_byte"]
theorem sc__law_number_at : FnScope N__law_number_at ["_law_row", "_law_at"] (defScope s__law_number_at) := ⟨rfl, rfl, rfl, by decide +kernel, rfl, by decide +kernel, by decide +kernel⟩
abbrev s__law_led : Stmt := topS 44
abbrev N__law_led : List Str := ["_law_one", "_law_change_row", "_law_found", "_law_here", "_law_at", "_law_k", "_law_part", "_law_many", "_law_kind"]
theorem sc__law_led : FnScope N__law_led ["_law_one", "_law_change_row"] (defScope s__law_led) := ⟨rfl, rfl, rfl, by decide +kernel, rfl, by decide +kernel, by decide +kernel⟩
abbrev s__law_near_row : Stmt := topS 45
abbrev N__law_near_row : List Str := ["_law_hand_here", "_law_one", "_law_way", "_law_at", "_law_more"]
theorem sc__law_near_row : FnScope N__law_near_row ["_law_hand_here", "_law_one"] (defScope s__law_near_row) := ⟨rfl, rfl, rfl, by decide +kernel, rfl, by decide +kernel, by decide +kernel⟩
abbrev s_is_integer : Stmt := topS 5
abbrev N_is_integer : List Str := ["thing"]
theorem sc_is_integer : FnScope N_is_integer ["thing"] (defScope s_is_integer) := ⟨rfl, rfl, rfl, by decide +kernel, rfl, by decide +kernel, by decide +kernel⟩
abbrev s_is_within : Stmt := topS 6
abbrev N_is_within : List Str := ["thing", "least", "most"]
theorem sc_is_within : FnScope N_is_within ["thing", "least", "most"] (defScope s_is_within) := ⟨rfl, rfl, rfl, by decide +kernel, rfl, by decide +kernel, by decide +kernel⟩
abbrev s_is_below : Stmt := topS 7
abbrev N_is_below : List Str := ["thing", "many"]
theorem sc_is_below : FnScope N_is_below ["thing", "many"] (defScope s_is_below) := ⟨rfl, rfl, rfl, by decide +kernel, rfl, by decide +kernel, by decide +kernel⟩
abbrev s_is_row : Stmt := topS 14
abbrev N_is_row : List Str := ["thing", "item"]
theorem sc_is_row : FnScope N_is_row ["thing"] (defScope s_is_row) := ⟨rfl, rfl, rfl, by decide +kernel, rfl, by decide +kernel, by decide +kernel⟩
abbrev s_check_row : Stmt := topS 15
abbrev N_check_row : List Str := ["thing"]
theorem sc_check_row : FnScope N_check_row ["thing"] (defScope s_check_row) := ⟨rfl, rfl, rfl, by decide +kernel, rfl, by decide +kernel, by decide +kernel⟩
abbrev s_common_begin : Stmt := topS 26
abbrev N_common_begin : List Str := ["one", "other", "many"]
theorem sc_common_begin : FnScope N_common_begin ["one", "other"] (defScope s_common_begin) := ⟨rfl, rfl, rfl, by decide +kernel, rfl, by decide +kernel, by decide +kernel⟩
abbrev s_common_end : Stmt := topS 27
abbrev N_common_end : List Str := ["one", "other", "most", "many"]
theorem sc_common_end : FnScope N_common_end ["one", "other", "most"] (defScope s_common_end) := ⟨rfl, rfl, rfl, by decide +kernel, rfl, by decide +kernel, by decide +kernel⟩
abbrev s_figures_of : Stmt := topS 16
abbrev N_figures_of : List Str := ["number", "found", "left"]
theorem sc_figures_of : FnScope N_figures_of ["number"] (defScope s_figures_of) := ⟨rfl, rfl, rfl, by decide +kernel, rfl, by decide +kernel, by decide +kernel⟩
abbrev s_part_row : Stmt := topS 28
abbrev N_part_row : List Str := ["kind", "many"]
theorem sc_part_row : FnScope N_part_row ["kind", "many"] (defScope s_part_row) := ⟨rfl, rfl, rfl, by decide +kernel, rfl, by decide +kernel, by decide +kernel⟩
abbrev s_change_of : Stmt := topS 29
abbrev N_change_of : List Str := ["one", "other", "begin", "end", "middle", "out", "head"]
theorem sc_change_of : FnScope N_change_of ["one", "other"] (defScope s_change_of) := ⟨rfl, rfl, rfl, by decide +kernel, rfl, by decide +kernel, by decide +kernel⟩
abbrev s_change : Stmt := topS 30
abbrev N_change : List Str := ["one", "other"]
theorem sc_change : FnScope N_change ["one", "other"] (defScope s_change) := ⟨rfl, rfl, rfl, by decide +kernel, rfl, by decide +kernel, by decide +kernel⟩
abbrev s__law_is_integer : Stmt := topS 36
abbrev N__law_is_integer : List Str := ["_law_thing"]
theorem sc__law_is_integer : FnScope N__law_is_integer ["_law_thing"] (defScope s__law_is_integer) := ⟨rfl, rfl, rfl, by decide +kernel, rfl, by decide +kernel, by decide +kernel⟩
abbrev s__law_same : Stmt := topS 38
abbrev N__law_same : List Str := ["_law_actual", "_law_due", "_law_one", "_law_other"]
theorem sc__law_same : FnScope N__law_same ["_law_actual", "_law_due"] (defScope s__law_same) := ⟨rfl, rfl, rfl, by decide +kernel, rfl, by decide +kernel, by decide +kernel⟩
abbrev s_number_at : Stmt := topS 17
abbrev N_number_at : List Str := ["row", "at", "found", "worth", "place", "is_needless"]
theorem sc_number_at : FnScope N_number_at ["row", "at"] (defScope s_number_at) := ⟨rfl, rfl, rfl, by decide +kernel, rfl, by decide +kernel, by decide +kernel⟩
abbrev s_part_at : Stmt := topS 23
abbrev N_part_at : List Str := ["change", "at", "found", "number", "behind", "kind", "many"]
theorem sc_part_at : FnScope N_part_at ["change", "at"] (defScope s_part_at) := ⟨rfl, rfl, rfl, by decide +kernel, rfl, by decide +kernel, by decide +kernel⟩
abbrev s_changed_or_wrong : Stmt := topS 24
abbrev N_changed_or_wrong : List Str := ["one", "change", "found", "here", "at", "part", "kind", "many", "behind"]
theorem sc_changed_or_wrong : FnScope N_changed_or_wrong ["one", "change"] (defScope s_changed_or_wrong) := ⟨rfl, rfl, rfl, by decide +kernel, rfl, by decide +kernel, by decide +kernel⟩
abbrev s_is_change : Stmt := topS 31
abbrev N_is_change : List Str := ["one", "other", "thing"]
theorem sc_is_change : FnScope N_is_change ["one", "other", "thing"] (defScope s_is_change) := ⟨rfl, rfl, rfl, by decide +kernel, rfl, by decide +kernel, by decide +kernel⟩
abbrev s__law_refused : Stmt := topS 47
abbrev N__law_refused : List Str := ["_law_one", "_law_other", "_law_found"]
theorem sc__law_refused : FnScope N__law_refused ["_law_one", "_law_other"] (defScope s__law_refused) := ⟨rfl, rfl, rfl, by decide +kernel, rfl, by decide +kernel, by decide +kernel⟩
abbrev s_changed : Stmt := topS 25
abbrev N_changed : List Str := ["one", "change", "found", "wrong"]
theorem sc_changed : FnScope N_changed ["one", "change"] (defScope s_changed) := ⟨rfl, rfl, rfl, by decide +kernel, rfl, by decide +kernel, by decide +kernel⟩
abbrev s__law_told : Stmt := topS 46
abbrev N__law_told : List Str := ["_law_one", "_law_thing", "error"]
theorem sc__law_told : FnScope N__law_told ["_law_one", "_law_thing"] (defScope s__law_told) := ⟨rfl, rfl, rfl, by decide +kernel, rfl, by decide +kernel, by decide +kernel⟩
abbrev s__law_is_within : Stmt := topS 37
abbrev N__law_is_within : List Str := ["_law_thing", "_law_least", "_law_most"]
theorem sc__law_is_within : FnScope N__law_is_within ["_law_thing", "_law_least", "_law_most"] (defScope s__law_is_within) := ⟨rfl, rfl, rfl, by decide +kernel, rfl, by decide +kernel, by decide +kernel⟩
abbrev s__law_is_row : Stmt := topS 41
abbrev N__law_is_row : List Str := ["_law_thing", "_law_byte"]
theorem sc__law_is_row : FnScope N__law_is_row ["_law_thing"] (defScope s__law_is_row) := ⟨rfl, rfl, rfl, by decide +kernel, rfl, by decide +kernel, by decide +kernel⟩
abbrev s_law : Stmt := topS 48
abbrev N_law : List Str := ["_law_script", "_law_hand_here", "_law_one", "_law_k", "_law_odd", "_law_thing", "_law_due", "_law_other", "_law_told_here"]
theorem sc_law : FnScope N_law ["_law_script"] (defScope s_law) := ⟨rfl, rfl, rfl, by decide +kernel, rfl, by decide +kernel, by decide +kernel⟩
abbrev i_BadChange : Stmt := match topS 3 with | .ClassDef _ _ _ b _ _ _ _ _ _ _ => b.getD 0 (.Pass ⟨0, 0, 0, 0⟩) | z => z
/-- what the walk asks of the top -/
structure Txt (P : Program) (w : World) (K : Frg) (mg : Str → Option Value) (base : Heap) (c_NoRow c_BadChange : Addr) : Prop where
  n_list : mg "list" = none
  n_int : mg "int" = none
  n_len : mg "len" = none
  n_tuple : mg "tuple" = none
  n_range : mg "range" = none
  n_max : mg "max" = none
  n_isinstance : mg "isinstance" = none
  n_bool : mg "bool" = none
  n_all : mg "all" = none
  g_BYTE : Gint mg "BYTE" (256)
  g_MOST_BYTES : Gint mg "MOST_BYTES" (300000)
  x_NoRow : Exc0 K mg "NoRow" c_NoRow
  n_min : mg "min" = none
  g_FIGURE : Gint mg "FIGURE" (128)
  g_PUT_IN : Gint mg "PUT_IN" (2)
  g_KEPT : Gint mg "KEPT" (0)
  g_LEFT_OUT : Gint mg "LEFT_OUT" (1)
  g_LEAST_KEPT : Gint mg "LEAST_KEPT" (8)
  n_zip : mg "zip" = none
  n_str : mg "str" = none
  g_MOST_FIGURES : Gint mg "MOST_FIGURES" (10)
  g_WHOLE_BOUND : Gint mg "WHOLE_BOUND" (18446744073709551616)
  x_BadChange : Exc1 P w K mg base "BadChange" "place" c_BadChange
  m_NoRow_NoRow : PySem.W.exmOne K (.ref c_NoRow) (.ref c_NoRow) = some true
  m_BadChange_NoRow : PySem.W.exmOne K (.ref c_BadChange) (.ref c_NoRow) = some false
  m_NoRow_BadChange : PySem.W.exmOne K (.ref c_NoRow) (.ref c_BadChange) = some false
  m_BadChange_BadChange : PySem.W.exmOne K (.ref c_BadChange) (.ref c_BadChange) = some true
section
variable {P : Program} {w : World} {K : Frg} {mg : Str → Option Value} {base : Heap} {c_NoRow c_BadChange : Addr}
local macro_rules | `(tactic| walk_at "dn") => `(tactic| simp only [mSeq, mNext, mRet, mRetN, mIfS, mSet, mDrop, mBrk, mCnt, mVar, mC, mOp, mUn, mFn, mNil, mCons, mTup, mFrz, mRef, mLst, mTr, mAnd, mOr, mNot, mAndV, mOrV, mNotV, mIf, mCall, mSl, mPart, mNoPart, mMeth, mAsg, mgSub, mgName, mgCons, mgNil, mgTup, mAug, mFnL, mRaise, mExc0, mDict0, mSeqI, seqQ, mRng1, mRng2, mZip, mFor, mComp, mYes, mChain, mTry, mTst, wipeW, br_true, br_false,
  pyIsi, startW, List.map, List.length_cons, List.length_nil, List.replicate, List.getElem?_cons_succ, List.getElem?_cons_zero, List.cons_append, List.nil_append, List.set_cons_succ, List.set_cons_zero, truthW, Bool.not_true, Bool.not_false, if_true, if_false, ite_true, ite_false, true_and, and_true, reduceIte, reduceCtorEq, Nat.reduceAdd, Nat.reduceSub, Bool.false_eq_true, pyLt, pyLe, pyGt, pyGe, pyRel, pyAdd, pySub, pyMod, pyFdiv, pyPow, pyNeg, Dn.pyLen])
local macro_rules | `(tactic| walk_at "dh") => `(tactic| simp only [mSeq, mNext, mRet, mRetN, mIfS, mSet, mDrop, mBrk, mCnt, mVar, mC, mOp, mUn, mFn, mNil, mCons, mTup, mFrz, mRef, mLst, mTr, mAnd, mOr, mNot, mAndV, mOrV, mNotV, mIf, mCall, mSl, mPart, mNoPart, mMeth, mAsg, mgSub, mgName, mgCons, mgNil, mgTup, mAug, mFnL, mRaise, mExc0, mDict0, mSeqI, seqQ, mRng1, mRng2, mZip, mFor, mComp, mYes, mChain, mTry, mTst, wipeW, br_true, br_false,
  pyIsi, startW, List.map, List.length_cons, List.length_nil, List.replicate, List.getElem?_cons_succ, List.getElem?_cons_zero, List.cons_append, List.nil_append, List.set_cons_succ, List.set_cons_zero, truthW, Bool.not_true, Bool.not_false, if_true, if_false, ite_true, ite_false, true_and, and_true, reduceIte, reduceCtorEq, Nat.reduceAdd, Nat.reduceSub, Bool.false_eq_true, pyLt, pyLe, pyGt, pyGe, pyRel, pyAdd, pySub, pyMod, pyFdiv, pyPow, pyNeg, Dn.pyLen,
  Dn.pyIx, lsv, plv, sup_same, sup_sup, pySetItem, at_0, at_1, at_2, at_3, at_4, at_5, at_6, at_7, at_8, at_9, ix_1_0, ix_2_0, ix_2_1, ix_3_0, ix_3_1, ix_3_2, ix_4_0, ix_4_1, ix_4_2, ix_4_3, ix_5_0, ix_5_1, ix_5_2, ix_5_3, ix_5_4, ix_6_0, ix_6_1, ix_6_2, ix_6_3, ix_6_4, ix_6_5, Dn.pyInt, pyEq, pyMul, List.length_map])
local macro_rules | `(tactic| walk_at "dk") => `(tactic| simp only [mSeq, mNext, mRet, mRetN, mIfS, mSet, mDrop, mBrk, mCnt, mVar, mC, mOp, mUn, mFn, mNil, mCons, mTup, mFrz, mRef, mLst, mTr, mAnd, mOr, mNot, mAndV, mOrV, mNotV, mIf, mCall, mSl, mPart, mNoPart, mMeth, mAsg, mgSub, mgName, mgCons, mgNil, mgTup, mAug, mFnL, mRaise, mExc0, mDict0, mSeqI, seqQ, mRng1, mRng2, mZip, mFor, mComp, mYes, mChain, mTry, mTst, wipeW, br_true, br_false,
  pyIsi, startW, List.map, List.length_cons, List.length_nil, List.replicate, List.getElem?_cons_succ, List.getElem?_cons_zero, List.cons_append, List.nil_append, List.set_cons_succ, List.set_cons_zero, truthW, Bool.not_true, Bool.not_false, if_true, if_false, ite_true, ite_false, true_and, and_true, reduceIte, reduceCtorEq, Nat.reduceAdd, Nat.reduceSub, Bool.false_eq_true, pyLt, pyLe, pyGt, pyGe, pyRel, pyAdd, pySub, pyMod, pyFdiv, pyPow, pyNeg, Dn.pyLen,
  Dn.pyIx, lsv, plv, sup_same, sup_sup, pySetItem, tyN, kb_NoneType_int, kb_NoneType_bool, kb_NoneType_str, kb_NoneType_tuple, kb_NoneType_list, kb_NoneType_dict, kb_bool_int, kb_bool_bool, kb_bool_str, kb_bool_tuple, kb_bool_list, kb_bool_dict, kb_int_int, kb_int_bool, kb_int_str, kb_int_tuple, kb_int_list, kb_int_dict, kb_str_int, kb_str_bool, kb_str_str, kb_str_tuple, kb_str_list, kb_str_dict, kb_tuple_int, kb_tuple_bool, kb_tuple_str, kb_tuple_tuple, kb_tuple_list, kb_tuple_dict, kb_list_int, kb_list_bool, kb_list_str, kb_list_tuple, kb_list_list, kb_list_dict, kb_dict_int, kb_dict_bool, kb_dict_str, kb_dict_tuple, kb_dict_list, kb_dict_dict, isI, isB, isS, isT, isL, isNon, isBlW, pyIs, pyIsNot, pyNe, Bool.or_self, Bool.or_true, Bool.or_false, Bool.true_or, Bool.false_or, Bool.and_self, Bool.and_true, Bool.and_false, decide_true, decide_false, at_0, at_1, at_2, at_3, at_4, at_5, at_6, at_7, at_8, at_9, ix_1_0, ix_2_0, ix_2_1, ix_3_0, ix_3_1, ix_3_2, ix_4_0, ix_4_1, ix_4_2, ix_4_3, ix_5_0, ix_5_1, ix_5_2, ix_5_3, ix_5_4, ix_6_0, ix_6_1, ix_6_2, ix_6_3, ix_6_4, ix_6_5, Dn.pyInt, pyEq, pyMul, List.length_map])
local macro_rules | `(tactic| walk_at "nx") => `(tactic| (conv => whnf))
local macro_rules | `(tactic| walk_at "ny") => `(tactic| ((conv => whnf); repeat (refine And.intro (by first | exact Nat.le_of_ble_eq_true rfl | exact trivial | exact rfl | decide | exact .inl (by decide) | exact .inr (.inl (by decide)) | exact ⟨by decide, by decide⟩ | omega) ?_; conv => whnf)))
theorem pyEq_of {x y : Dt} {S : Store} {Q : Dt → Store → Prop} (h1 : fl 60 x = true) (h2 : fl 60 y = true) (h : Q (.bl (eqD x y)) S) : pyEq x y S Q := by
  unfold pyEq
  split
  · rename_i i j; rw [show eqD (.int i) (.int j) = decide (i = j) from rfl] at h; exact h
  · rename_i i j; rw [show eqD (.bl i) (.bl j) = (i == j) from rfl] at h; exact h
  · rename_i i j; rw [show eqD (.str i) (.str j) = decide (i = j) from rfl] at h; exact h
  · exact ⟨h1, h2, h⟩
theorem pyNe_of {x y : Dt} {S : Store} {Q : Dt → Store → Prop} (h1 : fl 60 x = true) (h2 : fl 60 y = true) (h : Q (.bl (!eqD x y)) S) : pyNe x y S Q := pyEq_of h1 h2 h
theorem br_t {c : Prop} [Decidable c] {p q : Prop} (hc : c) (h : p) : br (decide c) p q := by rw [decide_eq_true hc]; exact h
theorem br_f {c : Prop} [Decidable c] {p q : Prop} (hc : ¬ c) (h : q) : br (decide c) p q := by rw [decide_eq_false hc]; exact h
theorem br_c {c : Prop} [Decidable c] {p q : Prop} (h1 : c → p) (h2 : ¬ c → q) : br (decide c) p q := by
  by_cases hc : c
  · exact br_t hc (h1 hc)
  · exact br_f hc (h2 hc)
local macro_rules | `(tactic| walk_at "side") => `(tactic| first | exact Nat.le_of_ble_eq_true rfl | exact trivial | exact rfl | decide | exact .inl (by decide) | exact .inr (.inl (by decide)) | exact ⟨by decide, by decide⟩ | omega | assumption)
local macro_rules | `(tactic| walk_at "go") => `(tactic| ((conv => whnf); repeat (first
  | (refine And.intro (by walk_at "side") ?_; (conv => whnf))
  | (refine br_t (by first | omega | assumption) ?_; (conv => whnf))
  | (refine br_f (by first | omega | assumption) ?_; (conv => whnf))
  | (rw [sup_same]; (conv => whnf)))))
def HandL (hd : List Dt) : Prop := ∃ (ns : List Int) (p b s c : Int), hd = [.lst (ns.map Dt.int), .int p, .int b, .int s, .int c] ∧ 0 ≤ p
/-- the row of a number -/
def figF : Nat → Int → List Int
  | 0, n => [n]
  | k + 1, n => if n < 128 then [n] else (n % 128 + 128) :: figF k (n / 128)
theorem figF_small {k : Nat} {n : Int} (h : n < 128) : figF k n = [n] := by
  cases k with
  | zero => rfl
  | succ k => unfold figF; rw [if_pos h]
theorem figF_big {k : Nat} {n : Int} (h : ¬ n < 128) : figF (k + 1) n = (n % 128 + 128) :: figF k (n / 128) := by
  rw [figF, if_neg h]
theorem figF_byte : ∀ {k : Nat} {n : Int}, 0 ≤ n → n < 128 ^ (k + 1) → ∀ b ∈ figF k n, 0 ≤ b ∧ b ≤ 255
  | 0, n, h0, h1, b, hb => by
    rw [figF, List.mem_singleton] at hb
    have h1 : n < 128 := h1
    omega
  | k + 1, n, h0, h1, b, hb => by
    rw [figF] at hb
    by_cases h : n < 128
    · rw [if_pos h, List.mem_singleton] at hb
      omega
    · rw [if_neg h, List.mem_cons] at hb
      rcases hb with rfl | hb
      · omega
      · exact figF_byte (by omega) (Int.ediv_lt_of_lt_mul (by decide) (by rw [Int.pow_succ] at h1; exact h1)) b hb
theorem figF_len : ∀ {k : Nat} {n : Int}, (figF k n).length ≤ k + 1
  | 0, n => Nat.le_refl _
  | k + 1, n => by
    rw [figF]
    split
    · exact Nat.le_add_left _ _
    · rw [List.length_cons]
      exact Nat.succ_le_succ figF_len
def foldI (n : Int) : Int := if 0 ≤ n then 2 * n else -2 * n - 1
/-- the number that a row begins with: what is left, how many more, found, worth, how many -/
def numG : List Int → Nat → Int → Int → Nat → Option (Int × Nat)
  | _, 0, _, _, _ => none
  | [], _ + 1, _, _, _ => none
  | b :: r, f + 1, v, p, c => if b < 128 then (if (b = 0 ∧ 0 < c) ∨ 18446744073709551616 ≤ v + b % 128 * p then none else some (v + b % 128 * p, c + 1)) else numG r f (v + b % 128 * p) (p * 128) (c + 1)
def numAt (bs : List Int) (a : Nat) : Option (Int × Nat) := numG (bs.drop a) 10 0 1 0
theorem numG_nil {f : Nat} {v p : Int} {c : Nat} : numG [] f v p c = none := by
  cases f <;> rfl
theorem numG_zero {r : List Int} {v p : Int} {c : Nat} : numG r 0 v p c = none := by
  cases r <;> rfl
theorem numG_more {b : Int} {r : List Int} {f : Nat} {v p : Int} {c : Nat} (h : ¬ b < 128) : numG (b :: r) (f + 1) v p c = numG r f (v + b % 128 * p) (p * 128) (c + 1) := by
  rw [numG, if_neg h]
theorem numG_last {b : Int} {r : List Int} {f : Nat} {v p : Int} {c : Nat} (h : b < 128) : numG (b :: r) (f + 1) v p c = if (b = 0 ∧ 0 < c) ∨ 18446744073709551616 ≤ v + b % 128 * p then none else some (v + b % 128 * p, c + 1) := by
  rw [numG, if_pos h]
def optD (a : Nat) : Option (Int × Nat) → Dt
  | none => .non
  | some (n, c) => .tup [.int n, .int ((a : Int) + (c : Int))]
def unfoldI (n : Int) : Int := if n % 2 = 0 then n / 2 else -(n + 1) / 2
inductive Rd where
  | noRow | noPlace | bad (a : Int) | ok (n e : Int)
def rdOf (k : Int) (w a : Dt) : Rd :=
  if rowW w = true then match a with
    | .int i => if 0 ≤ i ∧ i ≤ ((bytesOf w).length : Int) then match numAt (bytesOf w) i.toNat with
        | none => .bad i
        | some (n, c) => if k = 0 then .ok n (i + (c : Int)) else if -4611686018427387904 ≤ unfoldI n ∧ unfoldI n ≤ 4611686018427387904 then .ok (unfoldI n) (i + (c : Int)) else .bad i
      else .noPlace
    | _ => .noPlace
  else .noRow
def toldR : Rd → Dt
  | .noRow => .tup [.str "NoRow"]
  | .noPlace => .tup [.str "NoPlace"]
  | .bad i => .tup [.str "BadRow", .int i]
  | .ok n e => .tup [.str "told", .tup [.int n, .int e]]
def rdEnd (cR cP cB : Addr) (S : Store) (Q : Dt → Store → Prop) (Ex : Exn → Store → Prop) : Rd → Prop
  | .noRow => Ex ⟨.ref cR, none⟩ S
  | .noPlace => Ex ⟨.ref cP, none⟩ S
  | .bad i => Ex ⟨.ref cB, some (["place"], [.int i])⟩ S
  | .ok n e => Q (.tup [.int n, .int e]) S
theorem inW_not {w : Dt} {lo hi : Int} (h : inW w lo hi = false) (i : Int) (e : w = .int i) : ¬ (lo ≤ i ∧ i ≤ hi) := fun z => by
  subst e
  rw [inW_int z.1 z.2] at h
  cases h
theorem rdOf_noRow {k : Int} {w a : Dt} (h : rowW w = false) : rdOf k w a = .noRow := by
  unfold rdOf
  rw [h]
  rfl
theorem rdOf_noPlace {k : Int} {w a : Dt} (h : rowW w = true) (h2 : inW a 0 ((bytesOf w).length : Int) = false) : rdOf k w a = .noPlace := by
  unfold rdOf
  rw [if_pos h]
  cases a with
  | int i => exact if_neg (inW_not h2 i rfl)
  | _ => rfl
theorem rdOf_at {k : Int} {w : Dt} {a : Nat} (h : rowW w = true) (h2 : a ≤ (bytesOf w).length) : rdOf k w (.int a) = match numAt (bytesOf w) a with
        | none => .bad a
        | some (n, c) => if k = 0 then .ok n ((a : Int) + (c : Int)) else if -4611686018427387904 ≤ unfoldI n ∧ unfoldI n ≤ 4611686018427387904 then .ok (unfoldI n) ((a : Int) + (c : Int)) else .bad a := by
  unfold rdOf
  rw [if_pos h]
  show (if 0 ≤ (a : Int) ∧ (a : Int) ≤ ((bytesOf w).length : Int) then _ else _) = _
  rw [if_pos ⟨by omega, by omega⟩]
  rfl
theorem numG_fig : ∀ (k : Nat) (m v p : Int) (c : Nat) (post : List Int), 0 ≤ m → m < 128 ^ (k + 1) → v + m * p < 18446744073709551616 → (c = 0 ∨ 0 < m) → numG (figF (k + 1) m ++ post) (k + 1) v p c = some (v + m * p, c + (figF (k + 1) m).length)
  | k, m, v, p, c, post, h0, h1, h2, h3 => by
    by_cases h : m < 128
    · rw [figF_small h]
      show numG (m :: post) (k + 1) v p c = _
      have e : m % 128 = m := Int.emod_eq_of_lt h0 h
      rw [numG_last h, e, if_neg (fun z => by omega)]
      rfl
    · cases k with
      | zero => exact absurd (show m < 128 from h1) h
      | succ k =>
        have e : v + m % 128 * p + m / 128 * (p * 128) = v + m * p := by
          have q := Int.mul_ediv_add_emod m 128
          have q2 : (128 * (m / 128) + m % 128) * p = m * p := by rw [q]
          rw [Int.add_mul] at q2
          rw [← q2, Int.mul_comm p 128, ← Int.mul_assoc, Int.mul_comm (m / 128) 128]
          omega
        rw [figF_big h, List.cons_append, numG_more (show ¬ m % 128 + 128 < 128 by omega), show (m % 128 + 128) % 128 = m % 128 by omega,
          numG_fig k (m / 128) (v + m % 128 * p) (p * 128) (c + 1) post (by omega) (Int.ediv_lt_of_lt_mul (by decide) (by rw [Int.pow_succ] at h1; exact h1)) (by rw [e]; exact h2) (.inr (by omega)), e, List.length_cons]
        congr 2
        omega
theorem unfold_fold (n : Int) : unfoldI (foldI n) = n := by
  unfold unfoldI foldI
  by_cases h : 0 ≤ n
  · rw [if_pos h, if_pos (by omega)]
    omega
  · rw [if_neg h, if_neg (by omega)]
    omega
theorem numAt_fig {m : Int} {pre post : List Int} (h0 : 0 ≤ m) (h1 : m < 18446744073709551616) : numAt (pre ++ figF 10 m ++ post) pre.length = some (m, (figF 10 m).length) := by
  unfold numAt
  rw [List.append_assoc, List.drop_left, numG_fig 9 m 0 1 0 post h0 (by
    have : (128 : Int) ^ (9 + 1) = 1180591620717411303424 := by decide +kernel
    rw [this]
    omega) (by omega) (.inl rfl), Int.mul_one, Int.zero_add, Nat.zero_add]
theorem told_nice (r : Rd) : pl (toldR r) = true ∧ nice (toldR r) = true ∧ dep (toldR r) < 4 := by
  cases r <;> exact ⟨rfl, rfl, Nat.le_of_ble_eq_true rfl⟩
/-- what a row of parts makes of a row -/
inductive Led where
  | told (r : List Int) | bad (a : Nat)
def ledG (one ch : List Int) : Nat → Nat → Nat → List Int → Led
  | 0, _, _, r => .told r
  | f + 1, h, a, r => if a = ch.length then .told r else match numAt ch a with
    | none => .bad a
    | some (n, c) => if n / 3 = 0 ∨ (n % 3 ≠ 2 ∧ (one.length : Int) < (h : Int) + n / 3) ∨ (n % 3 = 2 ∧ (ch.length : Int) < (a : Int) + (c : Int) + n / 3) then .bad a
      else if n % 3 = 2 then ledG one ch f h (a + c + (n / 3).toNat) (r ++ (ch.drop (a + c)).take (n / 3).toNat)
      else ledG one ch f (h + (n / 3).toNat) (a + c) (if n % 3 = 0 then r ++ (one.drop h).take (n / 3).toNat else r)
def ledOf (one ch : List Int) : Led := ledG one ch (ch.length + 1) 0 0 []
def ledD : Led → Dt
  | .told r => .tup [.str "told", .tup (r.map Dt.int)]
  | .bad a => .tup [.str "BadChange", .int a]
theorem numG_pos : ∀ {r : List Int} {f : Nat} {v p : Int} {c : Nat} {n : Int} {k : Nat}, (∀ b ∈ r, 0 ≤ b ∧ b ≤ 255) → 0 ≤ v → 0 ≤ p → numG r f v p c = some (n, k) → 0 ≤ n ∧ n < 18446744073709551616 ∧ c < k ∧ k ≤ c + r.length
  | r, 0, v, p, c, n, k, hb, hv, hp, h => by rw [numG_zero] at h; cases h
  | [], f + 1, v, p, c, n, k, hb, hv, hp, h => by rw [numG_nil] at h; cases h
  | b :: r, f + 1, v, p, c, n, k, hb, hv, hp, h => by
    have hbb := hb b List.mem_cons_self
    have hm : 0 ≤ b % 128 * p := Int.mul_nonneg (by omega) hp
    by_cases hc : b < 128
    · rw [numG_last hc] at h
      split at h
      · cases h
      · rename_i hn
        cases h
        rw [List.length_cons]
        refine ⟨by omega, ?_, by omega, by omega⟩
        exact Int.not_le.mp fun z => hn (.inr z)
    · rw [numG_more hc] at h
      have := numG_pos (fun b h => hb b (List.mem_cons_of_mem _ h)) (by omega) (by omega) h
      rw [List.length_cons]
      omega
theorem numAt_pos {ch : List Int} {a : Nat} {n : Int} {c : Nat} (hb : ∀ b ∈ ch, 0 ≤ b ∧ b ≤ 255) (h : numAt ch a = some (n, c)) (ha : a ≤ ch.length) : 0 ≤ n ∧ n < 18446744073709551616 ∧ 0 < c ∧ a + c ≤ ch.length := by
  have := numG_pos (fun b h => hb b (List.mem_of_mem_drop h)) (by decide) (by decide) h
  rw [List.length_drop] at this
  omega
theorem ledG_end {one ch : List Int} {f h a : Nat} {r : List Int} (e : a = ch.length) : ledG one ch (f + 1) h a r = .told r := by
  rw [ledG, if_pos e]
theorem ledG_none {one ch : List Int} {f h a : Nat} {r : List Int} (e : a ≠ ch.length) (hn : numAt ch a = none) : ledG one ch (f + 1) h a r = .bad a := by
  rw [ledG, if_neg e, hn]
theorem ledG_some {one ch : List Int} {f h a c : Nat} {n : Int} {r : List Int} (e : a ≠ ch.length) (hn : numAt ch a = some (n, c)) : ledG one ch (f + 1) h a r =
    if n / 3 = 0 ∨ (n % 3 ≠ 2 ∧ (one.length : Int) < (h : Int) + n / 3) ∨ (n % 3 = 2 ∧ (ch.length : Int) < (a : Int) + (c : Int) + n / 3) then .bad a
      else if n % 3 = 2 then ledG one ch f h (a + c + (n / 3).toNat) (r ++ (ch.drop (a + c)).take (n / 3).toNat)
      else ledG one ch f (h + (n / 3).toNat) (a + c) (if n % 3 = 0 then r ++ (one.drop h).take (n / 3).toNat else r) := by
  rw [ledG, if_neg e, hn]
def partR (kind many : Nat) : List Int := if 0 < many then figF 10 (3 * (many : Int) + (kind : Int)) else []
abbrev LedSt := Nat × Nat × List Int
def LStep (one ch : List Int) (s t : LedSt) : Prop := ∀ f, ch.length + 1 ≤ f + s.2.1 → ∃ f', ch.length + 1 ≤ f' + t.2.1 ∧ ledG one ch f s.1 s.2.1 s.2.2 = ledG one ch f' t.1 t.2.1 t.2.2
theorem LStep.trans {one ch : List Int} {s t u : LedSt} (a : LStep one ch s t) (b : LStep one ch t u) : LStep one ch s u := fun f h => by
  obtain ⟨f1, h1, e1⟩ := a f h
  obtain ⟨f2, h2, e2⟩ := b f1 h1
  exact ⟨f2, h2, e1.trans e2⟩
theorem figF_pos {k : Nat} {n : Int} : 0 < (figF k n).length := by
  cases k with
  | zero => rw [figF]; exact Nat.succ_pos _
  | succ k =>
    rw [figF]
    split
    · exact Nat.succ_pos _
    · exact Nat.succ_pos _
theorem step_kept {one pre post : List Int} {many h : Nat} {r : List Int} (hm : many ≤ 1000000) (hh : h + many ≤ one.length) :
    LStep one (pre ++ partR 0 many ++ post) (h, pre.length, r) (h + many, pre.length + (partR 0 many).length, r ++ (one.drop h).take many) := by
  intro f hf
  by_cases hp : 0 < many
  · have ep : partR 0 many = figF 10 (3 * (many : Int)) := by unfold partR; rw [if_pos hp, show 3 * (many : Int) + ((0 : Nat) : Int) = 3 * (many : Int) by omega]
    have hpos := figF_pos (k := 10) (n := 3 * (many : Int))
    rw [ep] at hf ⊢
    have hn := numAt_fig (m := 3 * (many : Int)) (pre := pre) (post := post) (by omega) (by omega)
    rw [List.length_append, List.length_append] at hf
    obtain ⟨f, rfl⟩ : ∃ g, f = g + 1 := ⟨f - 1, by simp only at hf; omega⟩
    refine ⟨f, by rw [List.length_append, List.length_append]; simp only at hf ⊢; omega, ?_⟩
    show ledG one _ (f + 1) h pre.length r = _
    rw [ledG_some (by rw [List.length_append, List.length_append]; omega) hn, if_neg (by omega), if_neg (by omega), if_pos (by omega), show (3 * (many : Int) / 3).toNat = many by omega]
  · have e0 : many = 0 := by omega
    subst e0
    have ep : partR 0 0 = [] := rfl
    refine ⟨f, by simpa [ep] using hf, by simp [ep]⟩
theorem step_left {one pre post : List Int} {many h : Nat} {r : List Int} (hm : many ≤ 1000000) (hh : h + many ≤ one.length) :
    LStep one (pre ++ partR 1 many ++ post) (h, pre.length, r) (h + many, pre.length + (partR 1 many).length, r) := by
  intro f hf
  by_cases hp : 0 < many
  · have ep : partR 1 many = figF 10 (3 * (many : Int) + 1) := by unfold partR; rw [if_pos hp]; rfl
    have hpos := figF_pos (k := 10) (n := 3 * (many : Int) + 1)
    rw [ep] at hf ⊢
    have hn := numAt_fig (m := 3 * (many : Int) + 1) (pre := pre) (post := post) (by omega) (by omega)
    rw [List.length_append, List.length_append] at hf
    obtain ⟨f, rfl⟩ : ∃ g, f = g + 1 := ⟨f - 1, by simp only at hf; omega⟩
    refine ⟨f, by rw [List.length_append, List.length_append]; simp only at hf ⊢; omega, ?_⟩
    show ledG one _ (f + 1) h pre.length r = _
    rw [ledG_some (by rw [List.length_append, List.length_append]; omega) hn, if_neg (by omega), if_neg (by omega), if_neg (by omega), show ((3 * (many : Int) + 1) / 3).toNat = many by omega]
  · have e0 : many = 0 := by omega
    subst e0
    have ep : partR 1 0 = [] := rfl
    refine ⟨f, by simpa [ep] using hf, by simp [ep]⟩
theorem step_put {one pre mid post : List Int} {h : Nat} {r : List Int} (hm : mid.length ≤ 1000000) :
    LStep one (pre ++ partR 2 mid.length ++ (mid ++ post)) (h, pre.length, r) (h, pre.length + (partR 2 mid.length).length + mid.length, r ++ mid) := by
  intro f hf
  by_cases hp : 0 < mid.length
  · have ep : partR 2 mid.length = figF 10 (3 * (mid.length : Int) + 2) := by unfold partR; rw [if_pos hp]; rfl
    have hpos := figF_pos (k := 10) (n := 3 * (mid.length : Int) + 2)
    rw [ep] at hf ⊢
    have hn := numAt_fig (m := 3 * (mid.length : Int) + 2) (pre := pre) (post := mid ++ post) (by omega) (by omega)
    rw [List.length_append, List.length_append, List.length_append] at hf
    obtain ⟨f, rfl⟩ : ∃ g, f = g + 1 := ⟨f - 1, by simp only at hf; omega⟩
    refine ⟨f, by rw [List.length_append, List.length_append, List.length_append]; simp only at hf ⊢; omega, ?_⟩
    show ledG one _ (f + 1) h pre.length r = _
    rw [ledG_some (by rw [List.length_append, List.length_append]; omega) hn, if_neg (by rw [List.length_append, List.length_append, List.length_append]; omega), if_pos (by omega), show ((3 * (mid.length : Int) + 2) / 3).toNat = mid.length by omega]
    have ed : ((pre ++ figF 10 (3 * (mid.length : Int) + 2) ++ (mid ++ post)).drop (pre.length + (figF 10 (3 * (mid.length : Int) + 2)).length)).take mid.length = mid := by
      rw [← List.length_append, List.drop_left, List.take_left]
    rw [ed]
  · have e0 : mid = [] := List.eq_nil_of_length_eq_zero (by omega)
    subst e0
    have ep : partR 2 0 = [] := rfl
    refine ⟨f, by simpa [ep] using hf, by simp [ep]⟩
/-- what a change is to be -/
def ChgOk (one other row : List Int) : Prop := (∀ b ∈ row, 0 ≤ b ∧ b ≤ 255) ∧ row.length ≤ other.length + 11 ∧ (one = other → row.length ≤ 11) ∧ ledOf one row = .told other
theorem figF_len2 {n : Int} (h1 : n < 16384) : (figF 10 n).length ≤ 2 := by
  by_cases h : n < 128
  · rw [figF_small h]
    exact Nat.le_succ _
  · rw [figF_big h, figF_small (by omega)]
    exact Nat.le_refl _
theorem partR_len {kind many : Nat} (hk : kind ≤ 2) (hm : many ≤ 5000) : (partR kind many).length ≤ 2 := by
  unfold partR
  split
  · exact figF_len2 (by omega)
  · exact Nat.zero_le _
theorem partR_byte {kind many : Nat} (hk : kind ≤ 2) (hm : many ≤ 5000) : ∀ b ∈ partR kind many, 0 ≤ b ∧ b ≤ 255 := by
  unfold partR
  split
  · refine figF_byte (by omega) ?_
    have : (128 : Int) ^ (10 + 1) = 151115727451828646838272 := by decide +kernel
    rw [this]
    omega
  · intro b h
    cases h
theorem chg_ok {one other : List Int} {b e : Nat} (l1 : one.length ≤ 5000) (l2 : other.length ≤ 5000) (hb : ∀ x ∈ other, 0 ≤ x ∧ x ≤ 255) (h1 : b + e ≤ one.length) (h2 : b + e ≤ other.length)
    (pe : one.take b = other.take b) (se : one.drop (one.length - e) = other.drop (other.length - e)) (same : one = other → e = 0 ∧ (b = one.length ∨ one.length ≤ 7)) :
    ChgOk one other (partR 0 b ++ partR 1 (if 0 < e then one.length - b - e else 0) ++ partR 2 (other.length - e - b) ++ (other.drop b).take (other.length - e - b) ++ partR 0 e) := by
  have p1 := partR_len (kind := 0) (many := b) (by omega) (by omega)
  have p2 := partR_len (kind := 1) (many := if 0 < e then one.length - b - e else 0) (by omega) (by split <;> omega)
  have p3 := partR_len (kind := 2) (many := other.length - e - b) (by omega) (by omega)
  have p4 := partR_len (kind := 0) (many := e) (by omega) (by omega)
  have lm : ((other.drop b).take (other.length - e - b)).length = other.length - e - b := by rw [List.length_take, List.length_drop]; omega
  refine ⟨fun x hx => ?_, ?_, fun he => ?_, ?_⟩
  · rw [List.mem_append, List.mem_append, List.mem_append, List.mem_append] at hx
    rcases hx with (((hx | hx) | hx) | hx) | hx
    · exact partR_byte (by omega) (by omega) x hx
    · exact partR_byte (by omega) (by split <;> omega) x hx
    · exact partR_byte (by omega) (by omega) x hx
    · exact hb x (List.mem_of_mem_drop (List.mem_of_mem_take hx))
    · exact partR_byte (by omega) (by omega) x hx
  · rw [List.length_append, List.length_append, List.length_append, List.length_append, lm]
    omega
  · have hl : one.length = other.length := by rw [he]
    rw [List.length_append, List.length_append, List.length_append, List.length_append, lm]
    obtain ⟨s2, s1⟩ := same he
    have q2 : (partR 1 (if 0 < e then one.length - b - e else 0)).length = 0 := by rw [if_neg (by omega)]; rfl
    have q4 : (partR 0 e).length = 0 := by rw [s2]; rfl
    omega
  · generalize hR : partR 0 b ++ partR 1 (if 0 < e then one.length - b - e else 0) ++ partR 2 (other.length - e - b) ++ (other.drop b).take (other.length - e - b) ++ partR 0 e = R
    generalize ho : (if 0 < e then one.length - b - e else 0) = out at hR p2
    generalize hmid : (other.drop b).take (other.length - e - b) = mid at hR lm
    rw [← lm] at hR
    have hbo : b + out + e ≤ one.length := by subst ho; split <;> omega
    have s1 : LStep one R (0, 0, []) (b, (partR 0 b).length, one.take b) := by
      have q := step_kept (one := one) (pre := []) (post := partR 1 out ++ partR 2 mid.length ++ mid ++ partR 0 e) (many := b) (h := 0) (r := []) (by omega) (by omega)
      rw [show [] ++ partR 0 b ++ (partR 1 out ++ partR 2 mid.length ++ mid ++ partR 0 e) = R by rw [← hR]; simp [List.append_assoc]] at q
      simpa using q
    have s2 : LStep one R (b, (partR 0 b).length, one.take b) (b + out, (partR 0 b).length + (partR 1 out).length, one.take b) := by
      have q := step_left (one := one) (pre := partR 0 b) (post := partR 2 mid.length ++ mid ++ partR 0 e) (many := out) (h := b) (r := one.take b) (by omega) (by omega)
      rw [show partR 0 b ++ partR 1 out ++ (partR 2 mid.length ++ mid ++ partR 0 e) = R by rw [← hR]; simp [List.append_assoc]] at q
      exact q
    have s3 : LStep one R (b + out, (partR 0 b).length + (partR 1 out).length, one.take b) (b + out, (partR 0 b).length + (partR 1 out).length + (partR 2 mid.length).length + mid.length, one.take b ++ mid) := by
      have q := step_put (one := one) (pre := partR 0 b ++ partR 1 out) (mid := mid) (post := partR 0 e) (h := b + out) (r := one.take b) (by omega)
      rw [show partR 0 b ++ partR 1 out ++ partR 2 mid.length ++ (mid ++ partR 0 e) = R by rw [← hR]; simp [List.append_assoc], List.length_append] at q
      exact q
    have s4 : LStep one R (b + out, (partR 0 b).length + (partR 1 out).length + (partR 2 mid.length).length + mid.length, one.take b ++ mid) (b + out + e, R.length, one.take b ++ mid ++ (one.drop (b + out)).take e) := by
      have q := step_kept (one := one) (pre := partR 0 b ++ partR 1 out ++ partR 2 mid.length ++ mid) (post := []) (many := e) (h := b + out) (r := one.take b ++ mid) (by omega) (by omega)
      rw [List.append_nil, hR] at q
      have hl : (partR 0 b ++ partR 1 out ++ partR 2 mid.length ++ mid).length = (partR 0 b).length + (partR 1 out).length + (partR 2 mid.length).length + mid.length := by rw [List.length_append, List.length_append, List.length_append]
      have hl2 : R.length = (partR 0 b ++ partR 1 out ++ partR 2 mid.length ++ mid).length + (partR 0 e).length := by rw [← hR, List.length_append]
      rw [← hl2, hl] at q
      exact q
    obtain ⟨f, hf, ef⟩ := ((s1.trans s2).trans (s3.trans s4)) (R.length + 1) (Nat.le_refl _)
    obtain ⟨g, rfl⟩ : ∃ g, f = g + 1 := ⟨f - 1, by simp only at hf; omega⟩
    unfold ledOf
    rw [show ledG one R (R.length + 1) 0 0 [] = _ from ef, ledG_end rfl]
    congr 1
    have et : (one.drop (b + out)).take e = other.drop (other.length - e) := by
      by_cases h0 : 0 < e
      · have : b + out = one.length - e := by subst ho; rw [if_pos h0]; omega
        rw [this, se, List.take_of_length_le (by rw [List.length_drop]; omega)]
      · have : e = 0 := by omega
        subst this
        rw [List.take_zero, Nat.sub_zero, List.drop_length]
    rw [et, pe, ← hmid]
    have : other.drop (other.length - e) = (other.drop b).drop (other.length - e - b) := by rw [List.drop_drop]; congr 1; omega
    rw [this, List.append_assoc, List.take_append_drop, List.take_append_drop]
def isChg (one other : List Int) (t : Dt) : Bool := rowW t && (match ledOf one (bytesOf t) with | .told r => decide (r = other) | .bad _ => false)
theorem led_nice (x : Led) : pl (ledD x) = true ∧ nice (ledD x) = true ∧ dep (ledD x) < 4 := by
  cases x with
  | told r => exact ⟨pl_pair rfl (pl_ints r), nice_pair rfl (nice_ints r), dep_pair (Nat.le_refl _) (dep_ints r)⟩
  | bad a => exact ⟨rfl, rfl, Nat.le_of_ble_eq_true rfl⟩
theorem led_fl (x : Led) : fl 60 (ledD x) = true := by
  cases x with
  | told r => exact fl_pair (by decide +kernel) (fl_ints 58 r)
  | bad a => exact fl_pair (a := .str "BadChange") (b := .int a) (by decide +kernel) rfl
def isTold (ot : List Int) : Led → Bool
  | .told r => decide (r = ot)
  | .bad _ => false
theorem led_eq (x : Led) (ot : List Int) : eqD (ledD x) (ledD (.told ot)) = isTold ot x := by
  cases x with
  | told r => show eqD (.tup [.str "told", .tup (r.map Dt.int)]) (.tup [.str "told", .tup (ot.map Dt.int)]) = _; rw [eqD_pair, eqD_ints]; rfl
  | bad a => rfl
theorem ledG_row {one ch : List Int} (h1 : ∀ b ∈ one, 0 ≤ b ∧ b ≤ 255) (h2 : ∀ b ∈ ch, 0 ≤ b ∧ b ≤ 255) : ∀ {f h a : Nat} {r q : List Int}, (∀ b ∈ r, 0 ≤ b ∧ b ≤ 255) → r.length ≤ h + a → h ≤ one.length → a ≤ ch.length → ledG one ch f h a r = .told q → (∀ b ∈ q, 0 ≤ b ∧ b ≤ 255) ∧ q.length ≤ one.length + ch.length
  | 0, h, a, r, q, hr, hl, ho, ha, e => by
    rw [ledG] at e
    cases e
    exact ⟨hr, by omega⟩
  | f + 1, h, a, r, q, hr, hl, ho, ha, e => by
    by_cases ea : a = ch.length
    · rw [ledG_end ea] at e
      cases e
      exact ⟨hr, by omega⟩
    · cases hn : numAt ch a with
      | none => rw [ledG_none ea hn] at e; cases e
      | some p =>
        obtain ⟨n, c⟩ := p
        obtain ⟨n0, n1, c0, c1⟩ := numAt_pos h2 hn ha
        rw [ledG_some ea hn] at e
        split at e
        · cases e
        · rename_i hbad
          have app : ∀ {x y : List Int}, (∀ b ∈ x, 0 ≤ b ∧ b ≤ 255) → (∀ b ∈ y, 0 ≤ b ∧ b ≤ 255) → ∀ b ∈ x ++ y, 0 ≤ b ∧ b ≤ 255 := fun hx hy b h => (List.mem_append.mp h).elim (hx b) (hy b)
          split at e
          · exact ledG_row h1 h2 (app hr fun b hb => h2 b (List.mem_of_mem_drop (List.mem_of_mem_take hb))) (by rw [List.length_append, List.length_take]; omega) ho (by omega) e
          · split at e
            · exact ledG_row h1 h2 (app hr fun b hb => h1 b (List.mem_of_mem_drop (List.mem_of_mem_take hb))) (by rw [List.length_append, List.length_take]; omega) (by omega) (by omega) e
            · exact ledG_row h1 h2 hr (by omega) (by omega) (by omega) e
theorem ledOf_row {one ch r : List Int} (e : ledOf one ch = .told r) (h1 : ∀ b ∈ one, 0 ≤ b ∧ b ≤ 255) (h2 : ∀ b ∈ ch, 0 ≤ b ∧ b ≤ 255) (l1 : one.length ≤ 100000) (l2 : ch.length ≤ 100000) : r.length ≤ 200000 ∧ ∀ b ∈ r, 0 ≤ b ∧ b ≤ 255 := by
  have := ledG_row h1 h2 (f := ch.length + 1) (h := 0) (a := 0) (r := []) (q := r) (fun b h => nomatch h) (Nat.le_refl _) (Nat.zero_le _) (Nat.zero_le _) e
  exact ⟨by omega, this.1⟩
/-! ### _law_hand -/
def G__law_hand : Fw := fun ws S Q _ => ∃ ns : List Int, ws = [.kl (ns.map Dt.int)] ∧ ∀ h hd, S h = none → HandL hd → Q (.ref h) (sup S h (.lst hd))
theorem ok__law_hand (T : Txt P w K mg base c_NoRow c_BadChange) (D : Dfn K mg "_law_hand" s__law_hand ["_law_script"])  : Cal P w K mg base "_law_hand" 1 ["_law_script"] 1 G__law_hand := by
  refine cal_of D sc__law_hand G__law_hand rfl fun f cdv A outer s H E hr => ?_
  have hu := hr.units
  refine ⟨_, (jss_one (js_ret (je_ref (jl_lst (ja_cons (je_frz (jl_callT c_list (by rfl) T.n_list (by decide +kernel) (ja_cons (je_var (pv 0)) ja_nil))) (ja_cons je_int (ja_cons je_int (ja_cons je_int (ja_cons je_int ja_nil))))))))), fun ws S Q Ex hl g => ?_⟩
  obtain ⟨ns, rfl, g⟩ := g
  walk_at "dn"
  simp only [Dn.pyList, lsv]
  refine ⟨by show 5 ≤ 16777216; decide, fun p hp => clo.of (g p _ hp ⟨ns, 0, 0, 1, 0, rfl, by decide⟩)⟩
/-! ### _law_take -/
def G__law_take : Fw := fun ws S Q _ => ∃ (h : Addr) (n : Int) (S0 : Store) (hd : List Dt), ws = [.ref h, .int n] ∧ S = sup S0 h (.lst hd) ∧ HandL hd ∧ 0 < n ∧ n.natAbs.log2 < 9000 ∧ ∀ r hd', 0 ≤ r → r < n → HandL hd' → Q (.int r) (sup S0 h (.lst hd'))
theorem ok__law_take (T : Txt P w K mg base c_NoRow c_BadChange) (D : Dfn K mg "_law_take" s__law_take ["_law_hand_here", "_law_many"])  : Cal P w K mg base "_law_take" 1 ["_law_hand_here", "_law_many"] 2 G__law_take := by
  refine cal_of D sc__law_take G__law_take rfl fun f cdv A outer s H E hr => ?_
  have hu := hr.units
  refine ⟨_, (jss_cons (js_asg (je_op o_add (je_ix o_ix (je_var (pv 0)) je_int (fun _ _ => rfl)) je_int) (jg_sub (je_var (pv 0)) je_int s_list)) (jss_cut (js_if (jt_w (jw_and (jt_cmp (o_eq hu) (je_ix o_ix (je_var (pv 0)) je_int (fun _ _ => rfl)) je_int (nomark _)) (jw_one (jt_cmp o_lt (je_ix o_ix (je_var (pv 0)) je_int (fun _ _ => rfl)) (je_callB (c_len) (by rfl) T.n_len (by decide +kernel) (ja_cons (je_ix o_ix (je_var (pv 0)) je_int (fun _ _ => rfl)) ja_nil)) (nomark _))))) (jss_cons (js_set (je_callT c_int (by rfl) T.n_int (by decide +kernel) (ja_cons (je_ix o_ix (je_ix o_ix (je_var (pv 0)) je_int (fun _ _ => rfl)) (je_ix o_ix (je_var (pv 0)) je_int (fun _ _ => rfl)) (fun _ _ => rfl)) ja_nil)) (pg_name (i := 3) sc__law_take.nd rfl (by first | exact Or.inl rfl | exact Or.inr rfl))) (jss_cons (js_asg (je_op o_add (je_ix o_ix (je_var (pv 0)) je_int (fun _ _ => rfl)) je_int) (jg_sub (je_var (pv 0)) je_int s_list)) (jss_one (js_if (jt_cmp o_ge (je_var (pv 3)) (je_op o_pow je_int je_int) (nomark _)) (jss_one (js_asg (je_var (pv 3)) (jg_sub (je_var (pv 0)) je_int s_list))) (jss_one (js_asg (je_op o_mod (je_callT c_int (by rfl) T.n_int (by decide +kernel) (ja_cons (je_op o_add (je_op o_add (je_op o_mul (je_ix o_ix (je_var (pv 0)) je_int (fun _ _ => rfl)) je_int) (je_op o_mod (je_callT c_int (by rfl) T.n_int (by decide +kernel) (ja_cons (je_var (pv 3)) ja_nil)) je_int)) je_int) ja_nil)) je_int) (jg_sub (je_var (pv 0)) je_int s_list))))))) jss_nil) (jss_cons (js_if (jt_cmp o_gt (je_ix o_ix (je_var (pv 0)) je_int (fun _ _ => rfl)) je_int (nomark _)) (jss_cons (js_set (je_op o_mod (je_callT c_int (by rfl) T.n_int (by decide +kernel) (ja_cons (je_ix o_ix (je_var (pv 0)) je_int (fun _ _ => rfl)) ja_nil)) (je_var (pv 1))) (pg_name (i := 4) sc__law_take.nd rfl (by first | exact Or.inl rfl | exact Or.inr rfl))) (jss_cons (js_asg (je_op o_fdiv (je_callT c_int (by rfl) T.n_int (by decide +kernel) (ja_cons (je_ix o_ix (je_var (pv 0)) je_int (fun _ _ => rfl)) ja_nil)) (je_var (pv 1))) (jg_sub (je_var (pv 0)) je_int s_list)) (jss_one (js_ret (je_var (pv 4)))))) jss_nil) (jss_cons (js_asg (je_op o_mod (je_callT c_int (by rfl) T.n_int (by decide +kernel) (ja_cons (je_op o_add (je_op o_mul (je_ix o_ix (je_var (pv 0)) je_int (fun _ _ => rfl)) je_int) (je_op o_mul je_int (je_ix o_ix (je_var (pv 0)) je_int (fun _ _ => rfl)))) ja_nil)) je_int) (jg_sub (je_var (pv 0)) je_int s_list)) (jss_cons (js_set (je_op o_mod (je_callT c_int (by rfl) T.n_int (by decide +kernel) (ja_cons (je_op o_mul (je_ix o_ix (je_var (pv 0)) je_int (fun _ _ => rfl)) (je_op o_add (je_op o_fdiv (je_ix o_ix (je_var (pv 0)) je_int (fun _ _ => rfl)) je_int) je_int)) ja_nil)) je_int) (pg_name (i := 2) sc__law_take.nd rfl (by first | exact Or.inl rfl | exact Or.inr rfl))) (jss_cons (js_set (je_op o_mod (je_callT c_int (by rfl) T.n_int (by decide +kernel) (ja_cons (je_op o_mul (je_var (pv 2)) (je_op o_add (je_op o_fdiv (je_var (pv 2)) je_int) je_int)) ja_nil)) je_int) (pg_name (i := 2) sc__law_take.nd rfl (by first | exact Or.inl rfl | exact Or.inr rfl))) (jss_one (js_ret (je_op o_mod (je_callT c_int (by rfl) T.n_int (by decide +kernel) (ja_cons (je_op o_fdiv (je_var (pv 2)) je_int) ja_nil)) (je_var (pv 1))))))))))), fun ws S Q Ex hl g => ?_⟩
  obtain ⟨h, n, S0, hd, rfl, rfl, ⟨ns, p, b, s', c, rfl, hp⟩, hn, hn9, g⟩ := g
  unfold mCut
  walk_at "dh"
  refine ⟨fun σ S' => ∃ (p b s c : Int) (y1 y2 y3 : Option Dt), σ = [some (.ref h), some (.int n), y1, y2, y3] ∧ S' = sup S0 h (.lst [.lst (ns.map Dt.int), .int p, .int b, .int s, .int c]) ∧ 0 ≤ p, ?_, ?_⟩
  · by_cases e : b = 0
    · subst e
      by_cases hl : p < (ns.length : Int)
      · obtain ⟨x, hx⟩ := atI_ints hp hl
        simp only [hl, decide_true, hx]
        walk_at "dh"
        refine ⟨by decide, ?_⟩
        by_cases hc : (10 : Int) ^ Int.toNat 18 ≤ x
        · simp only [hc, decide_true]
          walk_at "dh"
          exact ⟨p + 1, x, s', c + 1, _, _, _, rfl, rfl, by omega⟩
        · simp only [hc, decide_false]
          walk_at "dh"
          exact ⟨.inr (.inl (by decide)), by decide, by decide, p + 1, 0, _, c + 1, _, _, _, rfl, rfl, by omega⟩
      · simp only [hl, decide_true, decide_false]
        walk_at "dh"
        exact ⟨p, 0, s', c + 1, _, _, _, rfl, rfl, hp⟩
    · simp only [e, decide_false]
      walk_at "dh"
      exact ⟨p, b, s', c + 1, _, _, _, rfl, rfl, hp⟩
  · rintro σ S' ⟨p, b, s, c, y1, y2, y3, rfl, rfl, hp⟩
    walk_at "dh"
    by_cases hb : 0 < b
    · simp only [hb, decide_true]
      walk_at "dh"
      refine ⟨hn, ⟨hn, hn9⟩, clo.of (g _ _ (Int.emod_nonneg _ (by omega)) (Int.emod_lt_of_pos _ hn) ⟨ns, p, b / n, s, c, rfl, hp⟩)⟩
    · simp only [hb, decide_false]
      walk_at "dh"
      have r1 := Int.emod_nonneg (s * 69621 + 7919 * c) (by decide : (2147483647 : Int) ≠ 0)
      have r2 := Int.emod_lt_of_pos (s * 69621 + 7919 * c) (by decide : (0 : Int) < 2147483647)
      generalize (s * 69621 + 7919 * c) % 2147483647 = q at r1 r2 ⊢
      have q1 := Int.emod_nonneg (q * (q / 1009 + 69621)) (by decide : (2147483647 : Int) ≠ 0)
      have q2 := Int.emod_lt_of_pos (q * (q / 1009 + 69621)) (by decide : (0 : Int) < 2147483647)
      generalize (q * (q / 1009 + 69621)) % 2147483647 = t at q1 q2 ⊢
      refine ⟨.inr (.inl (by decide)), .inl (by decide), by decide, ⟨by decide, by decide⟩, .inl (by omega), by decide, ⟨by decide, by decide⟩, .inl (by omega), by decide, ⟨by decide, by decide⟩, hn, clo.of (g _ _ (Int.emod_nonneg _ (by omega)) (Int.emod_lt_of_pos _ hn) ⟨ns, p, b, q, c, rfl, hp⟩)⟩
/-! ### _law_pick -/
def G__law_pick : Fw := fun ws S Q _ => ∃ (h : Addr) (xs : List Dt) (S0 : Store) (hd : List Dt), ws = [.ref h, .lst xs] ∧ S = sup S0 h (.lst hd) ∧ HandL hd ∧ 0 < xs.length ∧ xs.length < 1000 ∧ ∀ x hd', x ∈ xs → HandL hd' → Q x (sup S0 h (.lst hd'))
theorem ok__law_pick (T : Txt P w K mg base c_NoRow c_BadChange) (D : Dfn K mg "_law_pick" s__law_pick ["_law_hand_here", "_law_things"]) (C__law_take : Cal P w K mg base "_law_take" 1 ["_law_hand_here", "_law_many"] 2 G__law_take) : Cal P w K mg base "_law_pick" 2 ["_law_hand_here", "_law_things"] 2 G__law_pick := by
  refine cal_of D sc__law_pick G__law_pick rfl fun f cdv A outer s H E hr => ?_
  have hu := hr.units
  refine ⟨_, (jss_one (js_ret (je_ix o_ix (je_var (pv 1)) (je_cal C__law_take (hr.mono (by omega)) takes_def (by rfl) (ja_cons (je_var (pv 0)) (ja_cons (je_callB (c_len) (by rfl) T.n_len (by decide +kernel) (ja_cons (je_var (pv 1)) ja_nil)) ja_nil))) (fun _ _ => rfl)))), fun ws S Q Ex hl g => ?_⟩
  obtain ⟨h, xs, S0, hd, rfl, rfl, hh, h0, h1, g⟩ := g
  walk_at "dh"
  refine ⟨h, (xs.length : Int), S0, hd, rfl, rfl, hh, by omega, log_small (by omega), fun r hd' r0 r1 hh' => ?_⟩
  have hl : r.toNat < xs.length := by omega
  have e : atI xs r = some xs[r.toNat] := by
    unfold atI ixN
    rw [if_pos r0, if_pos r1]
    exact List.getElem?_eq_getElem hl
  walk_at "dh"
  rw [e]
  exact clo.of (g _ _ (List.getElem_mem hl) hh')
/-! ### _law_bytes -/
def G__law_bytes : Fw := fun ws S Q _ => ∃ (h : Addr) (n : Int) (S0 : Store) (hd : List Dt), ws = [.ref h, .int n] ∧ S = sup S0 h (.lst hd) ∧ HandL hd ∧ 0 ≤ n ∧ n ≤ 1000 ∧ ∀ (bs : List Int) hd', (bs.length : Int) ≤ n → (∀ b ∈ bs, 0 ≤ b ∧ b ≤ 255) → HandL hd' → Q (.tup (bs.map Dt.int)) (sup S0 h (.lst hd'))
theorem ok__law_bytes (T : Txt P w K mg base c_NoRow c_BadChange) (D : Dfn K mg "_law_bytes" s__law_bytes ["_law_hand_here", "_law_most"]) (C__law_take : Cal P w K mg base "_law_take" 1 ["_law_hand_here", "_law_many"] 2 G__law_take) (C__law_pick : Cal P w K mg base "_law_pick" 2 ["_law_hand_here", "_law_things"] 2 G__law_pick) : Cal P w K mg base "_law_bytes" 3 ["_law_hand_here", "_law_most"] 2 G__law_bytes := by
  refine cal_of D sc__law_bytes G__law_bytes rfl fun f cdv A outer s H E hr => ?_
  have hu := hr.units
  refine ⟨_, (jss_cons (js_set (je_ref (jl_lst ja_nil)) (pg_name (i := 2) sc__law_bytes.nd rfl (by first | exact Or.inl rfl | exact Or.inr rfl))) (jss_cons (js_for passes_def rfl (ji_rng1 (by rfl) T.n_range (ja_cons (je_cal C__law_take (hr.mono (by omega)) takes_def (by rfl) (ja_cons (je_var (pv 0)) (ja_cons (je_op o_add (je_var (pv 1)) je_int) ja_nil))) ja_nil)) (jg_name (pg_name (i := 3) sc__law_bytes.nd rfl (by first | exact Or.inl rfl | exact Or.inr rfl))) (jss_one (js_drop (je_meth PySem.F.plainAttrs_list PySem.F.slot_list_append PySem.F.type_list_append m_append (je_var (pv 2)) (ja_cons (je_cal C__law_pick (hr.mono (by omega)) takes_def (by rfl) (ja_cons (je_var (pv 0)) (ja_cons (je_frz (jl_lst (ja_cons je_int (ja_cons je_int (ja_cons je_int (ja_cons je_int (ja_cons je_int (ja_cons je_int (ja_cons je_int (ja_cons je_int (ja_cons (je_cal C__law_take (hr.mono (by omega)) takes_def (by rfl) (ja_cons (je_var (pv 0)) (ja_cons je_int ja_nil))) (ja_cons (je_cal C__law_take (hr.mono (by omega)) takes_def (by rfl) (ja_cons (je_var (pv 0)) (ja_cons je_int ja_nil))) ja_nil)))))))))))) ja_nil))) ja_nil))))) (jss_one (js_ret (je_callT c_tuple (by rfl) T.n_tuple (by decide +kernel) (ja_cons (je_var (pv 2)) ja_nil)))))), fun ws S Q Ex hl g => ?_⟩
  obtain ⟨h, n, S0, hd, rfl, rfl, hh, h0, h1, g⟩ := g
  walk_at "ny"
  intro p hp
  have hph : p ≠ h := fun z => by subst z; rw [sup_same] at hp; cases hp
  have hp0 : S0 p = none := by rw [sup_ne hph] at hp; exact hp
  rw [sup_comm (Ne.symm hph)]
  walk_at "ny"
  refine ⟨h, n + 1, sup S0 p (.lst []), hd, rfl, rfl, hh, by omega, log_small (by omega), fun r hd' r0 r1 hh' => ?_⟩
  walk_at "ny"
  refine forW_rule (fun i σ S' => ∃ (y : Option Dt) (bs : List Int) (hd : List Dt), S' = sup (sup S0 p (.lst (bs.map Dt.int))) h (.lst hd) ∧ σ = [some (.ref h), some (.int n), some (.ref p), y] ∧ HandL hd ∧ bs.length = i ∧ ∀ b ∈ bs, 0 ≤ b ∧ b ≤ 255) ⟨_, [], hd', rfl, rfl, hh', rfl, fun b hb => nomatch hb⟩ ?_ ?_
  · rintro i w σ S' N ew ⟨y, bs, hd2, rfl, rfl, hh2, hl, hb⟩ hN
    have eS : ∀ hd, sup (sup S0 p (.lst (bs.map Dt.int))) h (.lst hd) p = some (.lst (bs.map Dt.int)) := fun hd => sup_at hph
    refine ⟨trivial, ?_⟩
    walk_at "nx"
    refine ⟨ty_lst (eS _), rfl, h, 256, sup S0 p (.lst (bs.map Dt.int)), hd2, rfl, rfl, hh2, by decide, log_small (by decide), fun x1 hd3 x10 x11 hh3 => ?_⟩
    walk_at "ny"
    refine ⟨h, 256, sup S0 p (.lst (bs.map Dt.int)), hd3, rfl, rfl, hh3, by decide, log_small (by decide), fun x2 hd4 x20 x21 hh4 => ?_⟩
    walk_at "ny"
    refine ⟨h, _, sup S0 p (.lst (bs.map Dt.int)), hd4, rfl, rfl, hh4, by show 0 < 10; decide, by show 10 < 1000; decide, fun x hd5 hx hh5 => ?_⟩
    have hxi : ∃ b : Int, x = .int b ∧ 0 ≤ b ∧ b ≤ 255 := by
      simp only [List.mem_cons, List.not_mem_nil, or_false] at hx
      rcases hx with rfl | rfl | rfl | rfl | rfl | rfl | rfl | rfl | rfl | rfl <;> exact ⟨_, rfl, by omega, by omega⟩
    obtain ⟨b, rfl, b0, b1⟩ := hxi
    walk_at "nx"
    rw [eS]
    walk_at "nx"
    have hi : i < r.toNat := by
      have := (List.getElem?_eq_some_iff.mp ew).1
      rw [rangeW_len] at this
      omega
    refine ⟨by rw [List.length_map]; show _ < 16777216; omega, ?_⟩
    rw [sup_set hph]
    refine hN _ _ ⟨_, bs ++ [b], hd5, by rw [List.map_append]; rfl, rfl, hh5, by rw [List.length_append, hl]; rfl, fun c hc => ?_⟩
    rw [List.mem_append, List.mem_singleton] at hc
    rcases hc with hc | rfl
    · exact hb c hc
    · exact ⟨b0, b1⟩
  · rintro σ S' ⟨y, bs, hd2, rfl, rfl, hh2, hl, hb⟩
    walk_at "ny"
    rw [lsv_ref (sup_at hph)]
    refine clo.sub (g bs hd2 (by rw [hl, rangeW_len]; omega) hb hh2) ?_
    rw [sup_comm hph]
    exact sub_sup (by rw [sup_ne hph, hp0])
/-! ### _law_figures -/
def G__law_figures : Fw := fun ws S Q _ => ∃ n : Int, ws = [.int n] ∧ 0 ≤ n ∧ Q (.tup ((figF 10 n).map Dt.int)) S
theorem ok__law_figures (T : Txt P w K mg base c_NoRow c_BadChange) (D : Dfn K mg "_law_figures" s__law_figures ["_law_number"])  : Cal P w K mg base "_law_figures" 1 ["_law_number"] 1 G__law_figures := by
  refine cal_of D sc__law_figures G__law_figures rfl fun f cdv A outer s H E hr => ?_
  have hu := hr.units
  refine ⟨_, (jss_cons (js_set (je_ref (jl_lst ja_nil)) (pg_name (i := 1) sc__law_figures.nd rfl (by first | exact Or.inl rfl | exact Or.inr rfl))) (jss_cut (js_for passes_def rfl (ji_rng1 (by rfl) T.n_range (ja_cons je_int ja_nil)) (jg_name (pg_name (i := 2) sc__law_figures.nd rfl (by first | exact Or.inl rfl | exact Or.inr rfl))) (jss_cons (js_if (jt_cmp o_lt (je_var (pv 0)) je_int (nomark _)) (jss_one js_brk) jss_nil) (jss_cons (js_drop (je_meth PySem.F.plainAttrs_list PySem.F.slot_list_append PySem.F.type_list_append m_append (je_var (pv 1)) (ja_cons (je_op o_add (je_op o_mod (je_callT c_int (by rfl) T.n_int (by decide +kernel) (ja_cons (je_var (pv 0)) ja_nil)) je_int) je_int) ja_nil))) (jss_one (js_set (je_op o_fdiv (je_var (pv 0)) je_int) (pg_name (i := 0) sc__law_figures.nd rfl (by first | exact Or.inl rfl | exact Or.inr rfl))))))) (jss_one (js_ret (je_op o_add (je_callT c_tuple (by rfl) T.n_tuple (by decide +kernel) (ja_cons (je_var (pv 1)) ja_nil)) (je_tup (ja_cons (je_var (pv 0)) ja_nil))))))), fun ws S Q Ex hl g => ?_⟩
  obtain ⟨n, rfl, h0, g⟩ := g
  walk_at "ny"
  intro p hp
  walk_at "ny"
  refine ⟨fun σ S' => ∃ (acc : List Int) (cur : Int) (y : Option Dt), S' = sup S p (.lst (acc.map Dt.int)) ∧ σ = [some (.int cur), some (.ref p), y] ∧ acc.length ≤ 10 ∧ acc ++ [cur] = figF 10 n, ?_, ?_⟩
  · walk_at "ny"
    refine forW_rule (fun i σ S' => ∃ (acc : List Int) (cur : Int) (y : Option Dt), S' = sup S p (.lst (acc.map Dt.int)) ∧ σ = [some (.int cur), some (.ref p), y] ∧ 0 ≤ cur ∧ acc.length = i ∧ acc ++ figF (10 - i) cur = figF 10 n) ⟨[], n, none, rfl, rfl, h0, rfl, rfl⟩ ?_ ?_
    · rintro i w σ S' N ew ⟨acc, cur, y, rfl, rfl, hc0, hl, he⟩ hN
      have hi := (List.getElem?_eq_some_iff.mp ew).1
      rw [rangeW_len] at hi
      have hi : i < 10 := hi
      refine ⟨trivial, ?_⟩
      by_cases hc : cur < 128
      · walk_at "nx"
        rw [decide_eq_true hc]
        walk_at "nx"
        exact ⟨acc, cur, _, rfl, rfl, by omega, by rw [figF_small hc] at he; exact he⟩
      · walk_at "nx"
        rw [decide_eq_false hc]
        walk_at "nx"
        refine ⟨ty_lst sup_same, ?_⟩
        walk_at "ny"
        rw [sup_same]
        walk_at "nx"
        refine ⟨by rw [List.length_map]; show _ < 16777216; omega, ?_⟩
        walk_at "ny"
        rw [sup_sup]
        refine hN _ _ ⟨acc ++ [cur % 128 + 128], cur / 128, _, by rw [List.map_append]; rfl, rfl, by omega, by rw [List.length_append, hl]; rfl, ?_⟩
        rw [show 10 - i = 10 - (i + 1) + 1 by omega, figF_big hc] at he
        rw [List.append_assoc]
        exact he
    · rintro σ S' ⟨acc, cur, y, rfl, rfl, hc0, hl, he⟩
      rw [rangeW_len] at hl he
      refine ⟨trivial, ?_⟩
      walk_at "nx"
      exact ⟨acc, cur, _, rfl, rfl, by rw [hl]; decide, he⟩
  · rintro σ S' ⟨acc, cur, y, rfl, rfl, hl, he⟩
    walk_at "nx"
    rw [lsv_ref sup_same]
    walk_at "ny"
    refine ⟨by rw [List.length_map]; show _ + 1 ≤ 16777216; omega, ?_⟩
    walk_at "nx"
    have e : acc.map Dt.int ++ [Dt.int cur] = (figF 10 n).map Dt.int := by rw [← he, List.map_append]; rfl
    rw [e]
    exact clo.sub g (sub_sup hp)
/-! ### _law_parts -/
def G__law_parts : Fw := fun ws S Q _ => ∃ (h : Addr) (one : List Int) (S0 : Store) (hd : List Dt), ws = [.ref h, .tup (one.map Dt.int)] ∧ S = sup S0 h (.lst hd) ∧ HandL hd ∧ one.length ≤ 2000 ∧ ∀ (bs : List Int) hd', bs.length ≤ 20000 → (∀ b ∈ bs, 0 ≤ b ∧ b ≤ 255) → HandL hd' → Q (.tup (bs.map Dt.int)) (sup S0 h (.lst hd'))
theorem ok__law_parts (T : Txt P w K mg base c_NoRow c_BadChange) (D : Dfn K mg "_law_parts" s__law_parts ["_law_hand_here", "_law_one"]) (C__law_take : Cal P w K mg base "_law_take" 1 ["_law_hand_here", "_law_many"] 2 G__law_take) (C__law_bytes : Cal P w K mg base "_law_bytes" 3 ["_law_hand_here", "_law_most"] 2 G__law_bytes) (C__law_figures : Cal P w K mg base "_law_figures" 1 ["_law_number"] 1 G__law_figures) (C__law_pick : Cal P w K mg base "_law_pick" 2 ["_law_hand_here", "_law_things"] 2 G__law_pick) : Cal P w K mg base "_law_parts" 4 ["_law_hand_here", "_law_one"] 2 G__law_parts := by
  refine cal_of D sc__law_parts G__law_parts rfl fun f cdv A outer s H E hr => ?_
  have hu := hr.units
  refine ⟨_, (jss_cons (js_set (je_tup ja_nil) (pg_name (i := 2) sc__law_parts.nd rfl (by first | exact Or.inl rfl | exact Or.inr rfl))) (jss_cons (js_for passes_def rfl (ji_rng1 (by rfl) T.n_range (ja_cons (je_cal C__law_take (hr.mono (by omega)) takes_def (by rfl) (ja_cons (je_var (pv 0)) (ja_cons je_int ja_nil))) ja_nil)) (jg_name (pg_name (i := 3) sc__law_parts.nd rfl (by first | exact Or.inl rfl | exact Or.inr rfl))) (jss_cons (js_set (je_cal C__law_take (hr.mono (by omega)) takes_def (by rfl) (ja_cons (je_var (pv 0)) (ja_cons je_int ja_nil))) (pg_name (i := 4) sc__law_parts.nd rfl (by first | exact Or.inl rfl | exact Or.inr rfl))) (jss_cons (js_set (je_cal C__law_take (hr.mono (by omega)) takes_def (by rfl) (ja_cons (je_var (pv 0)) (ja_cons (je_op o_add je_int (je_cal C__law_pick (hr.mono (by omega)) takes_def (by rfl) (ja_cons (je_var (pv 0)) (ja_cons (je_frz (jl_lst (ja_cons je_int (ja_cons je_int (ja_cons (je_op o_add (je_callB (c_len) (by rfl) T.n_len (by decide +kernel) (ja_cons (je_var (pv 1)) ja_nil)) je_int) (ja_cons je_int ja_nil)))))) ja_nil)))) ja_nil))) (pg_name (i := 5) sc__law_parts.nd rfl (by first | exact Or.inl rfl | exact Or.inr rfl))) (jss_cons (js_set (je_op o_add (je_var (pv 2)) (je_cal C__law_figures (hr.mono (by omega)) takes_def (by rfl) (ja_cons (je_op o_add (je_op o_mul je_int (je_var (pv 5))) (je_var (pv 4))) ja_nil))) (pg_name (i := 2) sc__law_parts.nd rfl (by first | exact Or.inl rfl | exact Or.inr rfl))) (jss_one (js_if (jt_cmp (o_eq hu) (je_var (pv 4)) je_int (nomark _)) (jss_one (js_set (je_op o_add (je_var (pv 2)) (je_callT c_tuple (by rfl) T.n_tuple (by decide +kernel) (ja_cons (je_frz (jl_comp (own := [("_law_j", 7)]) rfl sc__law_parts.nd (ji_rng1 (by rfl) T.n_range (ja_cons (je_callB (c_max rfl) (by rfl) T.n_max (by decide +kernel) (ja_cons je_int (ja_cons (je_op o_sub (je_var (pv 5)) (je_callT c_int (by rfl) T.n_int (by decide +kernel) (ja_cons (je_cmp (o_eq hu) (je_cal C__law_take (hr.mono (by omega)) takes_def (by rfl) (ja_cons (je_var (pv 0)) (ja_cons je_int ja_nil))) je_int (nomark _)) ja_nil))) ja_nil))) ja_nil)) (blkOk_by (N := N__law_parts) (sc := defScope s__law_parts) (by decide +kernel)) binds_name (fun _ _ _ _ _ => (pg_name (i := 7) sc__law_parts.nd rfl (by first | exact Or.inl rfl | exact Or.inr rfl))) (fun _ _ _ _ _ => jts_nil) (fun _ _ _ _ _ => (je_cal C__law_take (hr.mono (by omega)) takes0 (by rfl) (ja_cons (je_var (pv 0)) (ja_cons je_int ja_nil)))))) ja_nil))) (pg_name (i := 2) sc__law_parts.nd rfl (by first | exact Or.inl rfl | exact Or.inr rfl)))) jss_nil)))))) (jss_cons (js_if (jt_cmp (o_eq hu) (je_cal C__law_take (hr.mono (by omega)) takes_def (by rfl) (ja_cons (je_var (pv 0)) (ja_cons je_int ja_nil))) je_int (nomark _)) (jss_cons (js_set (je_cal C__law_take (hr.mono (by omega)) takes_def (by rfl) (ja_cons (je_var (pv 0)) (ja_cons (je_op o_add (je_callB (c_len) (by rfl) T.n_len (by decide +kernel) (ja_cons (je_var (pv 2)) ja_nil)) je_int) ja_nil))) (pg_name (i := 6) sc__law_parts.nd rfl (by first | exact Or.inl rfl | exact Or.inr rfl))) (jss_one (js_ret (je_op o_add (je_op o_add (je_slice o_slice (je_var (pv 2)) jo_none (jo_some (je_var (pv 6)))) (je_cal C__law_bytes (hr.mono (by omega)) takes_def (by rfl) (ja_cons (je_var (pv 0)) (ja_cons je_int ja_nil)))) (je_slice o_slice (je_var (pv 2)) (jo_some (je_var (pv 6))) jo_none))))) jss_nil) (jss_one (js_ret (je_var (pv 2))))))), fun ws S Q Ex hl g => ?_⟩
  obtain ⟨h, one, S0, hd, rfl, rfl, hh, hl, g⟩ := g
  have g : ∀ (bs : List Int) hd', bs.length ≤ 20000 → (∀ b ∈ bs, 0 ≤ b ∧ b ≤ 255) → HandL hd' → clo Q (.tup (bs.map Dt.int)) (sup S0 h (.lst hd')) := fun bs hd' a b c => clo.of (g bs hd' a b c)
  have hlm : (one.map Dt.int).length = one.length := List.length_map ..
  have hap : ∀ {x y : List Int}, (∀ b ∈ x, 0 ≤ b ∧ b ≤ 255) → (∀ b ∈ y, 0 ≤ b ∧ b ≤ 255) → ∀ b ∈ x ++ y, 0 ≤ b ∧ b ≤ 255 := fun hx hy b h => (List.mem_append.mp h).elim (hx b) (hy b)
  walk_at "ny"
  refine ⟨h, 6, S0, hd, rfl, rfl, hh, by decide, log_small (by decide), fun n hd n0 n1 hh => ?_⟩
  walk_at "ny"
  refine forW_rule (fun i σ S' => ∃ (bs : List Int) (hd : List Dt) (y3 y4 y5 y6 y7 : Option Dt), S' = sup S0 h (.lst hd) ∧ σ = [some (.ref h), some (.tup (one.map Dt.int)), some (.tup (bs.map Dt.int)), y3, y4, y5, y6, y7] ∧ HandL hd ∧ bs.length ≤ 3000 * i ∧ ∀ b ∈ bs, 0 ≤ b ∧ b ≤ 255) ⟨[], hd, _, _, _, _, _, rfl, rfl, hh, Nat.le_refl _, fun b hb => nomatch hb⟩ ?_ ?_
  · rintro i w σ S' N ew ⟨bs, hd, y3, y4, y5, y6, y7, rfl, rfl, hh, hl2, hb⟩ hN
    have hi := (List.getElem?_eq_some_iff.mp ew).1
    rw [rangeW_len] at hi
    refine ⟨trivial, ?_⟩
    walk_at "ny"
    refine ⟨h, 3, S0, hd, rfl, rfl, hh, by decide, log_small (by decide), fun wy hd wy0 wy1 hh => ?_⟩
    walk_at "ny"
    refine ⟨h, _, S0, hd, rfl, rfl, hh, by show 0 < 4; decide, by show 4 < 1000; decide, fun x hd hx hh => ?_⟩
    have hxi : ∃ m : Int, x = .int m ∧ 0 ≤ m ∧ m ≤ 2001 := by
      simp only [List.mem_cons, List.not_mem_nil, or_false] at hx
      rcases hx with rfl | rfl | rfl | rfl <;> exact ⟨_, rfl, by omega, by omega⟩
    obtain ⟨m, rfl, m0, m1⟩ := hxi
    clear hx
    walk_at "ny"
    refine ⟨h, 1 + m, S0, hd, rfl, rfl, hh, by omega, log_small (by omega), fun k hd k0 k1 hh => ?_⟩
    walk_at "ny"
    refine ⟨3 * k + wy, rfl, by omega, ?_⟩
    have fl := figF_len (k := 10) (n := 3 * k + wy)
    have fb := figF_byte (k := 10) (n := 3 * k + wy) (by omega) (by
      have : (128 : Int) ^ (10 + 1) = 151115727451828646838272 := by decide +kernel
      rw [this]
      omega)
    walk_at "ny"
    refine ⟨by rw [List.length_map, List.length_map]; show _ ≤ 16777216; omega, ?_⟩
    rw [← List.map_append]
    walk_at "ny"
    by_cases e2 : wy = 2
    · rw [decide_eq_true e2]
      walk_at "ny"
      refine ⟨h, 12, S0, hd, rfl, rfl, hh, by decide, log_small (by decide), fun t hd t0 t1 hh => ?_⟩
      walk_at "ny"
      refine comp_move (fun i acc S' => ∃ (cs : List Int) (hd : List Dt), acc = cs.map Dt.int ∧ S' = sup S0 h (.lst hd) ∧ HandL hd ∧ cs.length = i ∧ ∀ b ∈ cs, 0 ≤ b ∧ b ≤ 255) _ 0 [] _ rfl (Nat.zero_le _) rfl ?_ ⟨[], hd, rfl, rfl, hh, rfl, fun b hb => nomatch hb⟩ ?_ ?_
      · rw [rangeW_len]
        show _ ≤ 16777216
        repeat' split
        all_goals omega
      · rintro i w acc S' ew ⟨cs, hd, rfl, rfl, hh, hc, hcb⟩
        refine ⟨_, rfl, fun kk hk => ?_⟩
        walk_at "ny"
        refine ⟨h, 256, S0, hd, rfl, rfl, hh, by decide, log_small (by decide), fun x hd x0 x1 hh => ?_⟩
        refine hk _ _ ⟨cs ++ [x], hd, by rw [List.map_append]; rfl, rfl, hh, by rw [List.length_append, hc]; rfl, hap hcb fun b hb => ?_⟩
        rw [List.mem_singleton] at hb
        omega
      · rintro acc S' ⟨cs, hd, rfl, rfl, hh, hc, hcb⟩
        have hc2 : cs.length ≤ 2001 := by
          rw [hc, rangeW_len]
          repeat' split
          all_goals omega
        clear hc
        walk_at "ny"
        refine ⟨by rw [List.length_map, List.length_map, List.length_append]; show _ ≤ 16777216; omega, ?_⟩
        rw [← List.map_append]
        walk_at "ny"
        exact hN _ _ ⟨bs ++ figF 10 (3 * k + wy) ++ cs, hd, _, _, _, _, _, rfl, rfl, hh, by rw [List.length_append, List.length_append]; omega, hap (hap hb fb) hcb⟩
    · rw [decide_eq_false e2]
      walk_at "ny"
      exact hN _ _ ⟨bs ++ figF 10 (3 * k + wy), hd, _, _, _, _, _, rfl, rfl, hh, by rw [List.length_append]; omega, hap hb fb⟩
  · rintro σ S' ⟨bs, hd, y3, y4, y5, y6, y7, rfl, rfl, hh, hl2, hb⟩
    rw [rangeW_len] at hl2
    have hlm : (bs.map Dt.int).length = bs.length := List.length_map ..
    refine ⟨trivial, ?_⟩
    walk_at "ny"
    refine ⟨h, 4, S0, hd, rfl, rfl, hh, by decide, log_small (by decide), fun t hd t0 t1 hh => ?_⟩
    walk_at "ny"
    by_cases e0 : t = 0
    · rw [decide_eq_true e0]
      walk_at "ny"
      refine ⟨h, ((bs.map Dt.int).length : Int) + 1, S0, hd, rfl, rfl, hh, by omega, log_small (by omega), fun a hd a0 a1 hh => ?_⟩
      have ct : cutW (bs.map Dt.int) none (some a) = (bs.take a.toNat).map Dt.int := by rw [cutW_take a0, List.map_take]
      have cd : cutW (bs.map Dt.int) (some a) none = (bs.drop a.toNat).map Dt.int := by rw [cutW_drop a0, List.map_drop]
      have lt : (bs.take a.toNat).length = min a.toNat bs.length := List.length_take ..
      have ld : (bs.drop a.toNat).length = bs.length - a.toNat := List.length_drop ..
      walk_at "ny"
      refine ⟨h, 2, S0, hd, rfl, rfl, hh, by decide, by decide, fun mo hd ml mb hh => ?_⟩
      walk_at "ny"
      rw [ct]
      refine ⟨by rw [List.length_map, List.length_map]; show _ ≤ 16777216; omega, ?_⟩
      rw [← List.map_append]
      walk_at "ny"
      rw [cd]
      refine ⟨by rw [List.length_map, List.length_map, List.length_append]; show _ ≤ 16777216; omega, ?_⟩
      rw [← List.map_append]
      exact g _ hd (by rw [List.length_append, List.length_append]; omega) (hap (hap (fun b h => hb b (List.mem_of_mem_take h)) mb) fun b h => hb b (List.mem_of_mem_drop h)) hh
    · rw [decide_eq_false e0]
      walk_at "ny"
      exact g _ hd (by omega) hb hh
/-! ### _law_number_at -/
def G__law_number_at : Fw := fun ws S Q _ => ∃ (bs : List Int) (a : Nat), ws = [.tup (bs.map Dt.int), .int a] ∧ (∀ b ∈ bs, 0 ≤ b ∧ b ≤ 255) ∧ Q (optD a (numAt bs a)) S
theorem ok__law_number_at (T : Txt P w K mg base c_NoRow c_BadChange) (D : Dfn K mg "_law_number_at" s__law_number_at ["_law_row", "_law_at"])  : Cal P w K mg base "_law_number_at" 1 ["_law_row", "_law_at"] 2 G__law_number_at := by
  refine cal_of D sc__law_number_at G__law_number_at rfl fun f cdv A outer s H E hr => ?_
  have hu := hr.units
  refine ⟨_, (jss_cons (js_set je_int (pg_name (i := 2) sc__law_number_at.nd rfl (by first | exact Or.inl rfl | exact Or.inr rfl))) (jss_cons (js_set je_int (pg_name (i := 3) sc__law_number_at.nd rfl (by first | exact Or.inl rfl | exact Or.inr rfl))) (jss_cons (js_for passes_def rfl (ji_rng1 (by rfl) T.n_range (ja_cons je_int ja_nil)) (jg_name (pg_name (i := 4) sc__law_number_at.nd rfl (by first | exact Or.inl rfl | exact Or.inr rfl))) (jss_cons (js_if (jt_cmp o_ge (je_op o_add (je_var (pv 1)) (je_var (pv 4))) (je_callB (c_len) (by rfl) T.n_len (by decide +kernel) (ja_cons (je_var (pv 0)) ja_nil)) (nomark _)) (jss_one (js_ret je_non)) jss_nil) (jss_cons (js_set (je_ix o_ix (je_var (pv 0)) (je_op o_add (je_var (pv 1)) (je_var (pv 4))) (fun _ _ => rfl)) (pg_name (i := 5) sc__law_number_at.nd rfl (by first | exact Or.inl rfl | exact Or.inr rfl))) (jss_cons (js_set (je_op o_add (je_var (pv 2)) (je_op o_mul (je_op o_mod (je_callT c_int (by rfl) T.n_int (by decide +kernel) (ja_cons (je_var (pv 5)) ja_nil)) je_int) (je_var (pv 3)))) (pg_name (i := 2) sc__law_number_at.nd rfl (by first | exact Or.inl rfl | exact Or.inr rfl))) (jss_cons (js_set (je_op o_mul (je_var (pv 3)) je_int) (pg_name (i := 3) sc__law_number_at.nd rfl (by first | exact Or.inl rfl | exact Or.inr rfl))) (jss_one (js_if (jt_cmp o_lt (je_var (pv 5)) je_int (nomark _)) (jss_cons (js_if (jt_w (jw_or (jt_w (jw_and (jt_cmp o_gt (je_var (pv 4)) je_int (nomark _)) (jw_one (jt_cmp (o_eq hu) (je_var (pv 5)) je_int (nomark _))))) (jw_one (jt_cmp o_ge (je_var (pv 2)) (je_op o_pow je_int je_int) (nomark _))))) (jss_one (js_ret je_non)) jss_nil) (jss_one (js_ret (je_tup (ja_cons (je_var (pv 2)) (ja_cons (je_op o_add (je_op o_add (je_var (pv 1)) (je_var (pv 4))) je_int) ja_nil)))))) jss_nil))))))) (jss_one (js_ret je_non))))), fun ws S Q Ex hl g => ?_⟩
  obtain ⟨bs, a, rfl, hb, g⟩ := g
  have g : clo Q (optD a (numAt bs a)) S := clo.of g
  have hlm : (bs.map Dt.int).length = bs.length := List.length_map ..
  walk_at "ny"
  refine forW_rule (fun i σ S' => ∃ (v p : Int) (y1 y2 : Option Dt), S' = S ∧ σ = [some (.tup (bs.map Dt.int)), some (.int a), some (.int v), some (.int p), y1, y2] ∧ numAt bs a = numG (bs.drop (a + i)) (10 - i) v p i) ⟨0, 1, none, none, rfl, rfl, rfl⟩ ?_ ?_
  · rintro i w σ S' N ew ⟨v, p, y1, y2, rfl, rfl, he⟩ hN
    have h10 := (List.getElem?_eq_some_iff.mp ew).1
    rw [rangeW_len] at h10
    rw [rangeW_get _ _ _ h10] at ew
    cases ew
    have h10 : i < 10 := h10
    refine ⟨trivial, ?_⟩
    by_cases hlt : a + i < bs.length
    · have hbb := hb _ (List.getElem_mem hlt)
      have hdr : bs.drop (a + i) = bs[a + i] :: bs.drop (a + i + 1) := List.drop_eq_getElem_cons hlt
      have hat : atI (bs.map Dt.int) ((a : Int) + (0 + (i : Int))) = some (.int bs[a + i]) := by
        rw [Dn.atI_get (by omega), List.getElem?_map, show ((a : Int) + (0 + (i : Int))).toNat = a + i by omega, List.getElem?_eq_getElem hlt]
        rfl
      generalize bs[a + i] = b at hbb hdr hat
      rw [hdr, show 10 - i = 10 - (i + 1) + 1 by omega] at he
      walk_at "ny"
      rw [decide_eq_false (show ¬ ((bs.map Dt.int).length : Int) ≤ (a : Int) + (0 + (i : Int)) by omega)]
      walk_at "ny"
      rw [hat]
      walk_at "ny"
      refine ⟨.inl ⟨by omega, by omega⟩, ?_⟩
      walk_at "ny"
      by_cases hc : b < 128
      · rw [numG_last hc] at he
        rw [decide_eq_true hc]
        walk_at "ny"
        have fin : ∀ hn : ¬ (b = 0 ∧ 0 < i), (18446744073709551616 ≤ v + b % 128 * p → clo Q .non S') ∧ (¬ 18446744073709551616 ≤ v + b % 128 * p → clo Q (.tup [.int (v + b % 128 * p), .int ((a : Int) + (0 + (i : Int)) + 1)]) S') := fun hn => ⟨fun h => by
          rw [if_pos (.inr h)] at he
          rw [he] at g
          exact g, fun h => by
          rw [if_neg (fun z => z.elim hn h)] at he
          rw [he] at g
          rw [show (a : Int) + (0 + (i : Int)) + 1 = (a : Int) + ((i + 1 : Nat) : Int) by omega]
          exact g⟩
        by_cases hp : 0 < i
        · rw [decide_eq_true (show (0 : Int) < 0 + (i : Int) by omega)]
          walk_at "ny"
          by_cases hz : b = 0
          · rw [decide_eq_true hz]
            walk_at "ny"
            rw [if_pos (.inl ⟨hz, hp⟩)] at he
            rw [he] at g
            exact g
          · rw [decide_eq_false hz]
            walk_at "ny"
            obtain ⟨f1, f2⟩ := fin (fun z => hz z.1)
            by_cases hb : 18446744073709551616 ≤ v + b % 128 * p
            · rw [decide_eq_true (show (2 : Int) ^ Int.toNat 64 ≤ v + b % 128 * p from hb)]
              walk_at "ny"
              exact f1 hb
            · rw [decide_eq_false (show ¬ (2 : Int) ^ Int.toNat 64 ≤ v + b % 128 * p from hb)]
              walk_at "ny"
              exact f2 hb
        · rw [decide_eq_false (show ¬ (0 : Int) < 0 + (i : Int) by omega)]
          walk_at "ny"
          obtain ⟨f1, f2⟩ := fin (fun z => hp z.2)
          by_cases hb : 18446744073709551616 ≤ v + b % 128 * p
          · rw [decide_eq_true (show (2 : Int) ^ Int.toNat 64 ≤ v + b % 128 * p from hb)]
            walk_at "ny"
            exact f1 hb
          · rw [decide_eq_false (show ¬ (2 : Int) ^ Int.toNat 64 ≤ v + b % 128 * p from hb)]
            walk_at "ny"
            exact f2 hb
      · rw [decide_eq_false hc]
        walk_at "ny"
        rw [numG_more hc] at he
        exact hN _ _ ⟨_, _, _, _, rfl, rfl, he⟩
    · walk_at "ny"
      rw [decide_eq_true (show ((bs.map Dt.int).length : Int) ≤ (a : Int) + (0 + (i : Int)) by omega)]
      walk_at "ny"
      rw [he, List.drop_of_length_le (by omega), numG_nil] at g
      exact g
  · rintro σ S' ⟨v, p, y1, y2, rfl, rfl, he⟩
    refine ⟨trivial, ?_⟩
    walk_at "nx"
    rw [rangeW_len] at he
    rw [he, show (10 - Int.toNat 10) = 0 from rfl, numG_zero] at g
    exact g
/-! ### _law_led -/
def G__law_led : Fw := fun ws S Q _ => ∃ one ch : List Int, ws = [.tup (one.map Dt.int), .tup (ch.map Dt.int)] ∧ one.length ≤ 100000 ∧ ch.length ≤ 100000 ∧ (∀ b ∈ ch, 0 ≤ b ∧ b ≤ 255) ∧ Q (ledD (ledOf one ch)) S
theorem ok__law_led (T : Txt P w K mg base c_NoRow c_BadChange) (D : Dfn K mg "_law_led" s__law_led ["_law_one", "_law_change_row"]) (C__law_number_at : Cal P w K mg base "_law_number_at" 1 ["_law_row", "_law_at"] 2 G__law_number_at) : Cal P w K mg base "_law_led" 2 ["_law_one", "_law_change_row"] 2 G__law_led := by
  refine cal_of D sc__law_led G__law_led rfl fun f cdv A outer s H E hr => ?_
  have hu := hr.units
  refine ⟨_, (jss_cons (js_set (je_tup ja_nil) (pg_name (i := 2) sc__law_led.nd rfl (by first | exact Or.inl rfl | exact Or.inr rfl))) (jss_cons (js_set je_int (pg_name (i := 3) sc__law_led.nd rfl (by first | exact Or.inl rfl | exact Or.inr rfl))) (jss_cons (js_set je_int (pg_name (i := 4) sc__law_led.nd rfl (by first | exact Or.inl rfl | exact Or.inr rfl))) (jss_cons (js_for passes_def rfl (ji_rng1 (by rfl) T.n_range (ja_cons (je_op o_add (je_callB (c_len) (by rfl) T.n_len (by decide +kernel) (ja_cons (je_var (pv 1)) ja_nil)) je_int) ja_nil)) (jg_name (pg_name (i := 5) sc__law_led.nd rfl (by first | exact Or.inl rfl | exact Or.inr rfl))) (jss_cons (js_if (jt_cmp (o_eq hu) (je_var (pv 4)) (je_callB (c_len) (by rfl) T.n_len (by decide +kernel) (ja_cons (je_var (pv 1)) ja_nil)) (nomark _)) (jss_one (js_ret (je_tup (ja_cons je_str (ja_cons (je_var (pv 2)) ja_nil))))) jss_nil) (jss_cons (js_set (je_cal C__law_number_at (hr.mono (by omega)) takes_def (by rfl) (ja_cons (je_var (pv 1)) (ja_cons (je_var (pv 4)) ja_nil))) (pg_name (i := 6) sc__law_led.nd rfl (by first | exact Or.inl rfl | exact Or.inr rfl))) (jss_cons (js_if (jt_cmp o_is (je_var (pv 6)) je_non (nomark _)) (jss_one (js_ret (je_tup (ja_cons je_str (ja_cons (je_var (pv 4)) ja_nil))))) jss_nil) (jss_cons (js_set (je_op o_fdiv (je_ix o_ix (je_var (pv 6)) je_int (fun _ _ => rfl)) je_int) (pg_name (i := 7) sc__law_led.nd rfl (by first | exact Or.inl rfl | exact Or.inr rfl))) (jss_cons (js_set (je_op o_mod (je_callT c_int (by rfl) T.n_int (by decide +kernel) (ja_cons (je_ix o_ix (je_var (pv 6)) je_int (fun _ _ => rfl)) ja_nil)) je_int) (pg_name (i := 8) sc__law_led.nd rfl (by first | exact Or.inl rfl | exact Or.inr rfl))) (jss_cons (js_if (jt_w (jw_or (jt_cmp (o_eq hu) (je_var (pv 7)) je_int (nomark _)) (jw_or (jt_w (jw_and (jt_cmp o_lt (je_var (pv 8)) je_int (nomark _)) (jw_one (jt_cmp o_gt (je_op o_add (je_var (pv 3)) (je_var (pv 7))) (je_callB (c_len) (by rfl) T.n_len (by decide +kernel) (ja_cons (je_var (pv 0)) ja_nil)) (nomark _))))) (jw_one (jt_w (jw_and (jt_cmp (o_eq hu) (je_var (pv 8)) je_int (nomark _)) (jw_one (jt_cmp o_gt (je_op o_add (je_ix o_ix (je_var (pv 6)) je_int (fun _ _ => rfl)) (je_var (pv 7))) (je_callB (c_len) (by rfl) T.n_len (by decide +kernel) (ja_cons (je_var (pv 1)) ja_nil)) (nomark _))))))))) (jss_one (js_ret (je_tup (ja_cons je_str (ja_cons (je_var (pv 4)) ja_nil))))) jss_nil) (jss_cons (js_set (je_ix o_ix (je_var (pv 6)) je_int (fun _ _ => rfl)) (pg_name (i := 4) sc__law_led.nd rfl (by first | exact Or.inl rfl | exact Or.inr rfl))) (jss_cons (js_if (jt_cmp (o_eq hu) (je_var (pv 8)) je_int (nomark _)) (jss_one (js_set (je_op o_add (je_var (pv 2)) (je_slice o_slice (je_var (pv 0)) (jo_some (je_var (pv 3))) (jo_some (je_op o_add (je_var (pv 3)) (je_var (pv 7)))))) (pg_name (i := 2) sc__law_led.nd rfl (by first | exact Or.inl rfl | exact Or.inr rfl)))) jss_nil) (jss_one (js_if (jt_cmp (o_eq hu) (je_var (pv 8)) je_int (nomark _)) (jss_cons (js_set (je_op o_add (je_var (pv 2)) (je_slice o_slice (je_var (pv 1)) (jo_some (je_var (pv 4))) (jo_some (je_op o_add (je_var (pv 4)) (je_var (pv 7)))))) (pg_name (i := 2) sc__law_led.nd rfl (by first | exact Or.inl rfl | exact Or.inr rfl))) (jss_one (js_set (je_op o_add (je_var (pv 4)) (je_var (pv 7))) (pg_name (i := 4) sc__law_led.nd rfl (by first | exact Or.inl rfl | exact Or.inr rfl))))) (jss_one (js_set (je_op o_add (je_var (pv 3)) (je_var (pv 7))) (pg_name (i := 3) sc__law_led.nd rfl (by first | exact Or.inl rfl | exact Or.inr rfl))))))))))))))) (jss_one (js_ret (je_tup (ja_cons je_str (ja_cons (je_var (pv 2)) ja_nil))))))))), fun ws S Q Ex hl g => ?_⟩
  obtain ⟨one, ch, rfl, hl1, hl2, hb, g⟩ := g
  have g : clo Q (ledD (ledOf one ch)) S := clo.of g
  have l1 : (one.map Dt.int).length = one.length := List.length_map ..
  have l2 : (ch.map Dt.int).length = ch.length := List.length_map ..
  walk_at "ny"
  refine forW_rule (fun i σ S' => ∃ (h a : Nat) (r : List Int) (y5 y6 y7 y8 : Option Dt), S' = S ∧ σ = [some (.tup (one.map Dt.int)), some (.tup (ch.map Dt.int)), some (.tup (r.map Dt.int)), some (.int h), some (.int a), y5, y6, y7, y8] ∧ a ≤ ch.length ∧ i ≤ a ∧ h ≤ one.length ∧ r.length ≤ h + a ∧ ledOf one ch = ledG one ch (ch.length + 1 - i) h a r) ⟨0, 0, [], none, none, none, none, rfl, rfl, Nat.zero_le _, Nat.le_refl _, Nat.zero_le _, Nat.le_refl _, rfl⟩ ?_ ?_
  · rintro i w σ S' N ew ⟨h, a, r, y5, y6, y7, y8, rfl, rfl, ha, hia, hh, hr, he⟩ hN
    refine ⟨trivial, ?_⟩
    have lr : (r.map Dt.int).length = r.length := List.length_map ..
    rw [show ch.length + 1 - i = (ch.length - i) + 1 by omega] at he
    walk_at "ny"
    by_cases e : a = ch.length
    · rw [decide_eq_true (show (a : Int) = ((ch.map Dt.int).length : Int) by omega)]
      rw [he, ledG_end e] at g
      walk_at "ny"
      exact g
    · rw [decide_eq_false (show ¬ (a : Int) = ((ch.map Dt.int).length : Int) by omega)]
      walk_at "ny"
      refine ⟨ch, a, rfl, hb, ?_⟩
      cases hn : numAt ch a with
      | none =>
        rw [he, ledG_none e hn] at g
        walk_at "ny"
        exact g
      | some p =>
        obtain ⟨n, c⟩ := p
        obtain ⟨n0, n1, c0, c1⟩ := numAt_pos hb hn ha
        rw [ledG_some e hn] at he
        have bad : (n / 3 = 0 ∨ (n % 3 ≠ 2 ∧ (one.length : Int) < (h : Int) + n / 3) ∨ (n % 3 = 2 ∧ (ch.length : Int) < (a : Int) + (c : Int) + n / 3)) → clo Q (.tup [.str "BadChange", .int a]) S' := fun z => by
          rw [if_pos z] at he
          rw [he] at g
          exact g
        walk_at "ny"
        by_cases m0 : n / 3 = 0
        · rw [decide_eq_true m0]
          walk_at "ny"
          exact bad (.inl m0)
        · rw [decide_eq_false m0]
          walk_at "ny"
          have em : n / 3 = ((n / 3).toNat : Int) := by omega
          by_cases k2 : n % 3 < 2
          · rw [decide_eq_true k2]
            walk_at "ny"
            by_cases c2 : ((one.map Dt.int).length : Int) < (h : Int) + n / 3
            · rw [decide_eq_true c2]
              walk_at "ny"
              exact bad (.inr (.inl ⟨by omega, by omega⟩))
            · rw [decide_eq_false c2]
              walk_at "ny"
              rw [decide_eq_false (show ¬ n % 3 = 2 by omega)]
              walk_at "ny"
              rw [if_neg (by omega), if_neg (by omega)] at he
              by_cases k0 : n % 3 = 0
              · rw [decide_eq_true k0]
                walk_at "ny"
                rw [cutW_ints em]
                have lt : ((one.drop h).take (n / 3).toNat).length = (n / 3).toNat := by rw [List.length_take, List.length_drop]; omega
                refine ⟨by rw [lr, List.length_map, lt]; show _ ≤ 16777216; omega, ?_⟩
                rw [← List.map_append]
                walk_at "ny"
                rw [decide_eq_false (show ¬ n % 3 = 2 by omega)]
                walk_at "ny"
                rw [show (h : Int) + n / 3 = ((h + (n / 3).toNat : Nat) : Int) by omega]
                rw [if_pos k0] at he
                refine hN _ _ ⟨h + (n / 3).toNat, a + c, _, _, _, _, _, rfl, rfl, by omega, by omega, by omega, by rw [List.length_append, lt]; omega, ?_⟩
                rw [show ch.length + 1 - (i + 1) = ch.length - i by omega]
                exact he
              · rw [decide_eq_false k0]
                walk_at "ny"
                rw [decide_eq_false (show ¬ n % 3 = 2 by omega)]
                walk_at "ny"
                rw [show (h : Int) + n / 3 = ((h + (n / 3).toNat : Nat) : Int) by omega]
                rw [if_neg k0] at he
                refine hN _ _ ⟨h + (n / 3).toNat, a + c, r, _, _, _, _, rfl, rfl, by omega, by omega, by omega, by omega, ?_⟩
                rw [show ch.length + 1 - (i + 1) = ch.length - i by omega]
                exact he
          · rw [decide_eq_false k2]
            walk_at "ny"
            rw [decide_eq_true (show n % 3 = 2 by omega)]
            walk_at "ny"
            by_cases c3 : ((ch.map Dt.int).length : Int) < (a : Int) + (c : Int) + n / 3
            · rw [decide_eq_true c3]
              walk_at "ny"
              exact bad (.inr (.inr ⟨by omega, by omega⟩))
            · rw [decide_eq_false c3]
              walk_at "ny"
              rw [if_neg (by omega), if_pos (by omega)] at he
              rw [decide_eq_false (show ¬ n % 3 = 0 by omega)]
              walk_at "ny"
              rw [decide_eq_true (show n % 3 = 2 by omega)]
              walk_at "ny"
              rw [show (a : Int) + (c : Int) = ((a + c : Nat) : Int) by omega, cutW_ints em]
              have lt : ((ch.drop (a + c)).take (n / 3).toNat).length = (n / 3).toNat := by rw [List.length_take, List.length_drop]; omega
              refine ⟨by rw [lr, List.length_map, lt]; show _ ≤ 16777216; omega, ?_⟩
              rw [← List.map_append]
              walk_at "ny"
              rw [show ((a + c : Nat) : Int) + n / 3 = ((a + c + (n / 3).toNat : Nat) : Int) by omega]
              refine hN _ _ ⟨h, a + c + (n / 3).toNat, _, _, _, _, _, rfl, rfl, by omega, by omega, hh, by rw [List.length_append, lt]; omega, ?_⟩
              rw [show ch.length + 1 - (i + 1) = ch.length - i by omega]
              exact he
  · rintro σ S' ⟨h, a, r, y5, y6, y7, y8, rfl, rfl, ha, hia, hh, hr, he⟩
    rw [rangeW_len] at hia
    omega
/-! ### _law_near_row -/
def G__law_near_row : Fw := fun ws S Q _ => ∃ (h : Addr) (one : List Int) (S0 : Store) (hd : List Dt), ws = [.ref h, .tup (one.map Dt.int)] ∧ S = sup S0 h (.lst hd) ∧ HandL hd ∧ one.length ≤ 1000 ∧ (∀ b ∈ one, 0 ≤ b ∧ b ≤ 255) ∧ ∀ (bs : List Int) hd', bs.length ≤ one.length + 20 → (∀ b ∈ bs, 0 ≤ b ∧ b ≤ 255) → HandL hd' → Q (.tup (bs.map Dt.int)) (sup S0 h (.lst hd'))
theorem ok__law_near_row (T : Txt P w K mg base c_NoRow c_BadChange) (D : Dfn K mg "_law_near_row" s__law_near_row ["_law_hand_here", "_law_one"]) (C__law_take : Cal P w K mg base "_law_take" 1 ["_law_hand_here", "_law_many"] 2 G__law_take) (C__law_bytes : Cal P w K mg base "_law_bytes" 3 ["_law_hand_here", "_law_most"] 2 G__law_bytes) : Cal P w K mg base "_law_near_row" 4 ["_law_hand_here", "_law_one"] 2 G__law_near_row := by
  refine cal_of D sc__law_near_row G__law_near_row rfl fun f cdv A outer s H E hr => ?_
  have hu := hr.units
  refine ⟨_, (jss_cons (js_set (je_cal C__law_take (hr.mono (by omega)) takes_def (by rfl) (ja_cons (je_var (pv 0)) (ja_cons je_int ja_nil))) (pg_name (i := 2) sc__law_near_row.nd rfl (by first | exact Or.inl rfl | exact Or.inr rfl))) (jss_cons (js_set (je_cal C__law_take (hr.mono (by omega)) takes_def (by rfl) (ja_cons (je_var (pv 0)) (ja_cons (je_op o_add (je_callB (c_len) (by rfl) T.n_len (by decide +kernel) (ja_cons (je_var (pv 1)) ja_nil)) je_int) ja_nil))) (pg_name (i := 3) sc__law_near_row.nd rfl (by first | exact Or.inl rfl | exact Or.inr rfl))) (jss_cons (js_set (je_cal C__law_bytes (hr.mono (by omega)) takes_def (by rfl) (ja_cons (je_var (pv 0)) (ja_cons je_int ja_nil))) (pg_name (i := 4) sc__law_near_row.nd rfl (by first | exact Or.inl rfl | exact Or.inr rfl))) (jss_cons (js_if (jt_cmp (o_eq hu) (je_var (pv 2)) je_int (nomark _)) (jss_one (js_ret (je_var (pv 1)))) jss_nil) (jss_cons (js_if (jt_cmp (o_eq hu) (je_var (pv 2)) je_int (nomark _)) (jss_one (js_ret (je_slice o_slice (je_var (pv 1)) jo_none (jo_some (je_var (pv 3)))))) jss_nil) (jss_cons (js_if (jt_cmp (o_eq hu) (je_var (pv 2)) je_int (nomark _)) (jss_one (js_ret (je_op o_add (je_var (pv 4)) (je_slice o_slice (je_var (pv 1)) (jo_some (je_var (pv 3))) jo_none)))) jss_nil) (jss_cons (js_if (jt_cmp (o_eq hu) (je_var (pv 2)) je_int (nomark _)) (jss_one (js_ret (je_var (pv 4)))) jss_nil) (jss_cons (js_if (jt_cmp (o_eq hu) (je_var (pv 2)) je_int (nomark _)) (jss_one (js_ret (je_op o_add (je_var (pv 1)) (je_var (pv 4))))) jss_nil) (jss_one (js_ret (je_op o_add (je_op o_add (je_slice o_slice (je_var (pv 1)) jo_none (jo_some (je_var (pv 3)))) (je_var (pv 4))) (je_slice o_slice (je_var (pv 1)) (jo_some (je_op o_add (je_var (pv 3)) (je_cal C__law_take (hr.mono (by omega)) takes_def (by rfl) (ja_cons (je_var (pv 0)) (ja_cons je_int ja_nil))))) jo_none)))))))))))), fun ws S Q Ex hl g => ?_⟩
  obtain ⟨h, one, S0, hd, rfl, rfl, hh, hl, hb, g⟩ := g
  have g : ∀ (bs : List Int) hd', bs.length ≤ one.length + 20 → (∀ b ∈ bs, 0 ≤ b ∧ b ≤ 255) → HandL hd' → clo Q (.tup (bs.map Dt.int)) (sup S0 h (.lst hd')) := fun bs hd' a b c => clo.of (g bs hd' a b c)
  have hlm : (one.map Dt.int).length = one.length := List.length_map ..
  walk_at "ny"
  refine ⟨h, 8, S0, hd, rfl, rfl, hh, by decide, log_small (by decide), fun wy hd _ _ hh => ?_⟩
  walk_at "ny"
  refine ⟨h, ((one.map Dt.int).length : Int) + 1, S0, hd, rfl, rfl, hh, by omega, log_small (by omega), fun a hd a0 a1 hh => ?_⟩
  walk_at "ny"
  refine ⟨h, 20, S0, hd, rfl, rfl, hh, by decide, by decide, fun mo hd ml mb hh => ?_⟩
  have ct : cutW (one.map Dt.int) none (some a) = (one.take a.toNat).map Dt.int := by rw [cutW_take a0, List.map_take]
  have cd : cutW (one.map Dt.int) (some a) none = (one.drop a.toNat).map Dt.int := by rw [cutW_drop a0, List.map_drop]
  have lt : (one.take a.toNat).length = min a.toNat one.length := List.length_take ..
  have ld : (one.drop a.toNat).length = one.length - a.toNat := List.length_drop ..
  have bt : ∀ b ∈ one.take a.toNat, 0 ≤ b ∧ b ≤ 255 := fun b h => hb b (List.mem_of_mem_take h)
  have bd : ∀ n : Nat, ∀ b ∈ one.drop n, 0 ≤ b ∧ b ≤ 255 := fun n b h => hb b (List.mem_of_mem_drop h)
  have hap : ∀ {x y : List Int}, (∀ b ∈ x, 0 ≤ b ∧ b ≤ 255) → (∀ b ∈ y, 0 ≤ b ∧ b ≤ 255) → ∀ b ∈ x ++ y, 0 ≤ b ∧ b ≤ 255 := fun hx hy b h => (List.mem_append.mp h).elim (hx b) (hy b)
  walk_at "ny"
  by_cases e0 : wy = 0
  · rw [decide_eq_true e0]
    walk_at "ny"
    exact g _ hd (by omega) hb hh
  · rw [decide_eq_false e0]
    walk_at "ny"
    by_cases e1 : wy = 1
    · rw [decide_eq_true e1]
      walk_at "ny"
      rw [ct]
      exact g _ hd (by omega) bt hh
    · rw [decide_eq_false e1]
      walk_at "ny"
      by_cases e2 : wy = 2
      · rw [decide_eq_true e2]
        walk_at "ny"
        rw [cd]
        refine ⟨by rw [List.length_map, List.length_map]; show _ ≤ 16777216; omega, ?_⟩
        rw [← List.map_append]
        exact g _ hd (by rw [List.length_append]; omega) (hap mb (bd _)) hh
      · rw [decide_eq_false e2]
        walk_at "ny"
        by_cases e3 : wy = 3
        · rw [decide_eq_true e3]
          walk_at "ny"
          exact g _ hd (by omega) mb hh
        · rw [decide_eq_false e3]
          walk_at "ny"
          by_cases e4 : wy = 4
          · rw [decide_eq_true e4]
            walk_at "ny"
            refine ⟨by rw [List.length_map, List.length_map]; show _ ≤ 16777216; omega, ?_⟩
            rw [← List.map_append]
            exact g _ hd (by rw [List.length_append]; omega) (hap hb mb) hh
          · rw [decide_eq_false e4]
            walk_at "ny"
            rw [ct]
            refine ⟨by rw [List.length_map, List.length_map]; show _ ≤ 16777216; omega, ?_⟩
            rw [← List.map_append]
            walk_at "ny"
            refine ⟨h, 12, S0, hd, rfl, rfl, hh, by decide, log_small (by decide), fun t hd t0 t1 hh => ?_⟩
            have cd2 : cutW (one.map Dt.int) (some (a + t)) none = (one.drop (a + t).toNat).map Dt.int := by rw [cutW_drop (by omega), List.map_drop]
            have ld2 : (one.drop (a + t).toNat).length = one.length - (a + t).toNat := List.length_drop ..
            walk_at "ny"
            rw [cd2]
            refine ⟨by rw [List.length_map, List.length_map, List.length_append]; show _ ≤ 16777216; omega, ?_⟩
            rw [← List.map_append]
            exact g _ hd (by rw [List.length_append, List.length_append]; omega) (hap (hap bt mb) (bd _)) hh
/-! ### is_integer -/
def G_is_integer : Fw := fun ws S Q _ => ∃ w, ws = [w] ∧ kn S w ∧ Q (.bl (isI w)) S
theorem ok_is_integer (T : Txt P w K mg base c_NoRow c_BadChange) (D : Dfn K mg "is_integer" s_is_integer ["thing"])  : Cal P w K mg base "is_integer" 1 ["thing"] 1 G_is_integer := by
  refine cal_of D sc_is_integer G_is_integer rfl fun f cdv A outer s H E hr => ?_
  have hu := hr.units
  refine ⟨_, (jss_one (js_ret (je_and (je_callB (c_isi) (by rfl) T.n_isinstance (by decide +kernel) (ja_cons (je_var (pv 0)) (ja_cons (je_bty (T := "int") (by rfl) T.n_int (by decide +kernel)) ja_nil))) (je_one (je_not (je_callB (c_isi) (by rfl) T.n_isinstance (by decide +kernel) (ja_cons (je_var (pv 0)) (ja_cons (je_bty (T := "bool") (by rfl) T.n_bool (by decide +kernel)) ja_nil)))))))), fun ws S Q Ex hl g => ?_⟩
  obtain ⟨w, rfl, ⟨t, kt⟩, g⟩ := g
  walk_at "dn"
  simp only [kt, kI kt, kB kt]
  have e : clo Q (.bl (isI w)) S := clo.of g
  cases w <;> simpa [isI, isB] using e
/-! ### is_within -/
def G_is_within : Fw := fun ws S Q _ => ∃ w lo hi, ws = [w, .int lo, .int hi] ∧ kn S w ∧ Q (.bl (inW w lo hi)) S
theorem ok_is_within (T : Txt P w K mg base c_NoRow c_BadChange) (D : Dfn K mg "is_within" s_is_within ["thing", "least", "most"]) (C_is_integer : Cal P w K mg base "is_integer" 1 ["thing"] 1 G_is_integer) : Cal P w K mg base "is_within" 2 ["thing", "least", "most"] 3 G_is_within := by
  refine cal_of D sc_is_within G_is_within rfl fun f cdv A outer s H E hr => ?_
  have hu := hr.units
  refine ⟨_, (jss_one (js_ret (je_and (je_cal C_is_integer (hr.mono (by omega)) takes_def (by rfl) (ja_cons (je_var (pv 0)) ja_nil)) (je_one (je_chain o_le o_le (je_var (pv 1)) (je_var (pv 0)) (je_var (pv 2))))))), fun ws S Q Ex hl g => ?_⟩
  obtain ⟨w, lo, hi, rfl, kt, g⟩ := g
  walk_at "dn"
  refine ⟨w, rfl, kt, ?_⟩
  have e : clo Q (.bl (inW w lo hi)) S := clo.of g
  cases w with
  | int i => by_cases h : lo ≤ i <;> simpa [isI, inW, h] using e
  | _ => exact e
/-! ### is_below -/
def G_is_below : Fw := fun ws S Q _ => ∃ w n, ws = [w, .int n] ∧ kn S w ∧ Q (.bl (inW w 0 (n - 1))) S
theorem ok_is_below (T : Txt P w K mg base c_NoRow c_BadChange) (D : Dfn K mg "is_below" s_is_below ["thing", "many"]) (C_is_within : Cal P w K mg base "is_within" 2 ["thing", "least", "most"] 3 G_is_within) : Cal P w K mg base "is_below" 3 ["thing", "many"] 2 G_is_below := by
  refine cal_of D sc_is_below G_is_below rfl fun f cdv A outer s H E hr => ?_
  have hu := hr.units
  refine ⟨_, (jss_one (js_ret (je_cal C_is_within (hr.mono (by omega)) takes_def (by rfl) (ja_cons (je_var (pv 0)) (ja_cons je_int (ja_cons (je_op o_sub (je_var (pv 1)) je_int) ja_nil)))))), fun ws S Q Ex hl g => ?_⟩
  obtain ⟨w, n, rfl, kt, g⟩ := g
  walk_at "dn"
  exact ⟨w, 0, n - 1, rfl, kt, clo.of g⟩
/-! ### is_row -/
def G_is_row : Fw := fun ws S Q _ => ∃ w, ws = [w] ∧ pl w = true ∧ Q (.bl (rowW w)) S
theorem ok_is_row (T : Txt P w K mg base c_NoRow c_BadChange) (D : Dfn K mg "is_row" s_is_row ["thing"]) (C_is_below : Cal P w K mg base "is_below" 3 ["thing", "many"] 2 G_is_below) : Cal P w K mg base "is_row" 4 ["thing"] 1 G_is_row := by
  refine cal_of D sc_is_row G_is_row rfl fun f cdv A outer s H E hr => ?_
  have hu := hr.units
  refine ⟨_, (jss_one (js_ret (je_and (je_callB (c_isi) (by rfl) T.n_isinstance (by decide +kernel) (ja_cons (je_var (pv 0)) (ja_cons (je_bty (T := "tuple") (by rfl) T.n_tuple (by decide +kernel)) ja_nil))) (je_and (je_cmp o_le (je_callB (c_len) (by rfl) T.n_len (by decide +kernel) (ja_cons (je_var (pv 0)) ja_nil)) (je_gi (by rfl) T.g_MOST_BYTES) (nomark _)) (je_one (je_callB (c_all rfl) (by rfl) T.n_all (by decide +kernel) (ja_cons (je_frz (jl_comp (own := [("item", 1)]) rfl sc_is_row.nd (ji_seq (je_var (pv 0))) (blkOk_by (N := N_is_row) (sc := defScope s_is_row) (by decide +kernel)) binds_name (fun _ _ _ _ _ => (pg_name (i := 1) sc_is_row.nd rfl (by first | exact Or.inl rfl | exact Or.inr rfl))) (fun _ _ _ _ _ => jts_nil) (fun _ _ _ _ _ => (je_cal C_is_below (hr.mono (by omega)) takes0 (by rfl) (ja_cons (je_var (pv 1)) (ja_cons (je_gi (by rfl) T.g_BYTE) ja_nil)))))) ja_nil))))))), fun ws S Q Ex hl g => ?_⟩
  obtain ⟨w, rfl, kw, g⟩ := g
  walk_at "dn"
  obtain ⟨t, kt⟩ := kn_pl (S := S) kw
  simp only [kt, kT kt]
  have e : clo Q (.bl (rowW w)) S := clo.of g
  cases w with
  | tup xs =>
    by_cases h : xs.length ≤ 300000
    · have h' : (xs.length : Int) ≤ 300000 := by omega
      simp only [isT, h', decide_true]
      refine comp_map (fun x => .bl (inW x 0 255)) xs [] (fun x hx => ?_) (by show 0 + xs.length ≤ 16777216; omega) ?_
      · refine ⟨_, rfl, fun k hk => ?_⟩
        walk_at "dn"
        exact ⟨x, 256, rfl, kn_pl (pl_tup kw x hx), hk⟩
      · refine ⟨xs.map (inW · 0 255), by simp, ?_⟩
        have e2 : (xs.map (inW · 0 255)).all id = rowW (.tup xs) := by simp [rowW, h]
        rw [e2]
        exact e
    · have h' : ¬ (xs.length : Int) ≤ 300000 := by omega
      simpa [isT, h', h, rowW] using e
  | _ => exact e
/-! ### check_row -/
def G_check_row (c_NoRow : Addr) : Fw := fun ws S Q Ex => ∃ w, ws = [w] ∧ pl w = true ∧ (rowW w = true → Q .non S) ∧ (rowW w = false → Ex ⟨.ref c_NoRow, none⟩ S)
theorem ok_check_row (T : Txt P w K mg base c_NoRow c_BadChange) (D : Dfn K mg "check_row" s_check_row ["thing"]) (C_is_row : Cal P w K mg base "is_row" 4 ["thing"] 1 G_is_row) : Cal P w K mg base "check_row" 5 ["thing"] 1 (G_check_row c_NoRow) := by
  refine cal_of D sc_check_row (G_check_row c_NoRow) rfl fun f cdv A outer s H E hr => ?_
  have hu := hr.units
  refine ⟨_, (jss_one (js_if (jt_not (jt_val (je_cal C_is_row (hr.mono (by omega)) takes_def (by rfl) (ja_cons (je_var (pv 0)) ja_nil)))) (jss_one (js_raise rfl takes_def (jr_exc0 T.x_NoRow (by rfl)))) jss_nil)), fun ws S Q Ex hl g => ?_⟩
  obtain ⟨w, rfl, kw, g1, g2⟩ := g
  walk_at "dn"
  refine ⟨w, rfl, kw, ?_⟩
  cases h : rowW w with
  | true => exact clo.of (g1 h)
  | false => exact clX.of (g2 h)
/-! ### common_begin -/
def G_common_begin : Fw := fun ws S Q _ => ∃ one other : List Int, ws = [.tup (one.map Dt.int), .tup (other.map Dt.int)] ∧ one.length ≤ 300000 ∧ other.length ≤ 300000 ∧ ∀ m : Nat, m ≤ one.length → m ≤ other.length → one.take m = other.take m → (one = other → m = one.length) → Q (.int m) S
theorem ok_common_begin (T : Txt P w K mg base c_NoRow c_BadChange) (D : Dfn K mg "common_begin" s_common_begin ["one", "other"])  : Cal P w K mg base "common_begin" 1 ["one", "other"] 2 G_common_begin := by
  refine cal_of D sc_common_begin G_common_begin rfl fun f cdv A outer s H E hr => ?_
  have hu := hr.units
  refine ⟨_, (jss_cons (js_set je_int (pg_name (i := 2) sc_common_begin.nd rfl (by first | exact Or.inl rfl | exact Or.inr rfl))) (jss_cons (js_while passes_def (jt_w (jw_and (jt_cmp o_lt (je_var (pv 2)) (je_callB (c_min rfl) (by rfl) T.n_min (by decide +kernel) (ja_cons (je_callB (c_len) (by rfl) T.n_len (by decide +kernel) (ja_cons (je_var (pv 0)) ja_nil)) (ja_cons (je_callB (c_len) (by rfl) T.n_len (by decide +kernel) (ja_cons (je_var (pv 1)) ja_nil)) ja_nil))) (nomark _)) (jw_one (jt_cmp (o_eq hu) (je_ix o_ix (je_var (pv 0)) (je_var (pv 2)) (fun _ _ => rfl)) (je_ix o_ix (je_var (pv 1)) (je_var (pv 2)) (fun _ _ => rfl)) (nomark _))))) (jss_one (js_aug (i := 2) sc_common_begin.nd rfl (by first | exact Or.inl rfl | exact Or.inr rfl) je_int i_add))) (jss_one (js_ret (je_var (pv 2)))))), fun ws S Q Ex hl g => ?_⟩
  obtain ⟨one, other, rfl, hl1, hl2, g⟩ := g
  have l1 : (one.map Dt.int).length = one.length := List.length_map ..
  have l2 : (other.map Dt.int).length = other.length := List.length_map ..
  walk_at "ny"
  refine mWhile_rule (fun k σ S' => ∃ m : Nat, S' = S ∧ σ = [some (.tup (one.map Dt.int)), some (.tup (other.map Dt.int)), some (.int m)] ∧ m ≤ one.length ∧ m ≤ other.length ∧ k + m = one.length ∧ one.take m = other.take m) one.length ⟨0, rfl, rfl, Nat.zero_le _, Nat.zero_le _, rfl, rfl⟩ ?_
  rintro k σ S' N ⟨m, rfl, rfl, h1, h2, hk, ht⟩ hN
  walk_at "ny"
  by_cases hm : m < one.length ∧ m < other.length
  · rw [decide_eq_true (show (m : Int) < (if ((other.map Dt.int).length : Int) < ((one.map Dt.int).length : Int) then ((other.map Dt.int).length : Int) else ((one.map Dt.int).length : Int)) by split <;> omega)]
    walk_at "ny"
    have a1 : atI (one.map Dt.int) (m : Int) = some (.int (one[m]'hm.1)) := by
      rw [Dn.atI_get (by omega), List.getElem?_map, Int.toNat_natCast, List.getElem?_eq_getElem hm.1]
      rfl
    have a2 : atI (other.map Dt.int) (m : Int) = some (.int (other[m]'hm.2)) := by
      rw [Dn.atI_get (by omega), List.getElem?_map, Int.toNat_natCast, List.getElem?_eq_getElem hm.2]
      rfl
    rw [a1]
    walk_at "ny"
    rw [a2]
    walk_at "ny"
    by_cases he : one[m]'hm.1 = other[m]'hm.2
    · rw [decide_eq_true he]
      walk_at "ny"
      refine hN (k - 1) _ _ (by omega) ⟨m + 1, rfl, rfl, by omega, by omega, by omega, ?_⟩
      rw [List.take_add_one, List.take_add_one, ht, List.getElem?_eq_getElem hm.1, List.getElem?_eq_getElem hm.2, he]
    · rw [decide_eq_false he]
      walk_at "ny"
      exact clo.of (g m h1 h2 ht fun z => absurd (by subst z; rfl) he)
  · rw [decide_eq_false (show ¬ (m : Int) < (if ((other.map Dt.int).length : Int) < ((one.map Dt.int).length : Int) then ((other.map Dt.int).length : Int) else ((one.map Dt.int).length : Int)) by split <;> omega)]
    walk_at "ny"
    exact clo.of (g m h1 h2 ht fun z => by subst z; omega)
/-! ### common_end -/
def G_common_end : Fw := fun ws S Q _ => ∃ (one other : List Int) (most : Nat), ws = [.tup (one.map Dt.int), .tup (other.map Dt.int), .int most] ∧ one.length ≤ 300000 ∧ other.length ≤ 300000 ∧ most ≤ one.length ∧ most ≤ other.length ∧ ∀ m : Nat, m ≤ most → one.drop (one.length - m) = other.drop (other.length - m) → Q (.int m) S
theorem ok_common_end (T : Txt P w K mg base c_NoRow c_BadChange) (D : Dfn K mg "common_end" s_common_end ["one", "other", "most"])  : Cal P w K mg base "common_end" 1 ["one", "other", "most"] 3 G_common_end := by
  refine cal_of D sc_common_end G_common_end rfl fun f cdv A outer s H E hr => ?_
  have hu := hr.units
  refine ⟨_, (jss_cons (js_set je_int (pg_name (i := 3) sc_common_end.nd rfl (by first | exact Or.inl rfl | exact Or.inr rfl))) (jss_cons (js_while passes_def (jt_w (jw_and (jt_cmp o_lt (je_var (pv 3)) (je_var (pv 2)) (nomark _)) (jw_one (jt_cmp (o_eq hu) (je_ix o_ix (je_var (pv 0)) (je_op o_sub (je_op o_sub (je_callB (c_len) (by rfl) T.n_len (by decide +kernel) (ja_cons (je_var (pv 0)) ja_nil)) je_int) (je_var (pv 3))) (fun _ _ => rfl)) (je_ix o_ix (je_var (pv 1)) (je_op o_sub (je_op o_sub (je_callB (c_len) (by rfl) T.n_len (by decide +kernel) (ja_cons (je_var (pv 1)) ja_nil)) je_int) (je_var (pv 3))) (fun _ _ => rfl)) (nomark _))))) (jss_one (js_aug (i := 3) sc_common_end.nd rfl (by first | exact Or.inl rfl | exact Or.inr rfl) je_int i_add))) (jss_one (js_ret (je_var (pv 3)))))), fun ws S Q Ex hl g => ?_⟩
  obtain ⟨one, other, most, rfl, hl1, hl2, hm1, hm2, g⟩ := g
  have l1 : (one.map Dt.int).length = one.length := List.length_map ..
  have l2 : (other.map Dt.int).length = other.length := List.length_map ..
  walk_at "ny"
  refine mWhile_rule (fun k σ S' => ∃ m : Nat, S' = S ∧ σ = [some (.tup (one.map Dt.int)), some (.tup (other.map Dt.int)), some (.int most), some (.int m)] ∧ m ≤ most ∧ k + m = most ∧ one.drop (one.length - m) = other.drop (other.length - m)) most ⟨0, rfl, rfl, Nat.zero_le _, rfl, by simp⟩ ?_
  rintro k σ S' N ⟨m, rfl, rfl, h1, hk, ht⟩ hN
  walk_at "ny"
  by_cases hm : m < most
  · rw [decide_eq_true (show (m : Int) < (most : Int) by omega)]
    walk_at "ny"
    have i1 : one.length - (m + 1) < one.length := by omega
    have i2 : other.length - (m + 1) < other.length := by omega
    have a1 : atI (one.map Dt.int) (((one.map Dt.int).length : Int) - 1 - (m : Int)) = some (.int (one[one.length - (m + 1)]'i1)) := by
      rw [Dn.atI_get (by omega), List.getElem?_map, show (((one.map Dt.int).length : Int) - 1 - (m : Int)).toNat = one.length - (m + 1) by omega, List.getElem?_eq_getElem i1]
      rfl
    have a2 : atI (other.map Dt.int) (((other.map Dt.int).length : Int) - 1 - (m : Int)) = some (.int (other[other.length - (m + 1)]'i2)) := by
      rw [Dn.atI_get (by omega), List.getElem?_map, show (((other.map Dt.int).length : Int) - 1 - (m : Int)).toNat = other.length - (m + 1) by omega, List.getElem?_eq_getElem i2]
      rfl
    rw [a1]
    walk_at "ny"
    rw [a2]
    walk_at "ny"
    by_cases he : one[one.length - (m + 1)]'i1 = other[other.length - (m + 1)]'i2
    · rw [decide_eq_true he]
      walk_at "ny"
      refine hN (k - 1) _ _ (by omega) ⟨m + 1, rfl, rfl, by omega, by omega, ?_⟩
      rw [List.drop_eq_getElem_cons i1, List.drop_eq_getElem_cons i2, he, show one.length - (m + 1) + 1 = one.length - m by omega, show other.length - (m + 1) + 1 = other.length - m by omega, ht]
    · rw [decide_eq_false he]
      walk_at "ny"
      exact clo.of (g m h1 ht)
  · rw [decide_eq_false (show ¬ (m : Int) < (most : Int) by omega)]
    walk_at "ny"
    exact clo.of (g m h1 ht)
/-! ### figures_of -/
def G_figures_of : Fw := fun ws S Q _ => ∃ n : Int, ws = [.int n] ∧ 0 ≤ n ∧ n < 1180591620717411303424 ∧ Q (.tup ((figF 10 n).map Dt.int)) S
theorem ok_figures_of (T : Txt P w K mg base c_NoRow c_BadChange) (D : Dfn K mg "figures_of" s_figures_of ["number"])  : Cal P w K mg base "figures_of" 1 ["number"] 1 G_figures_of := by
  refine cal_of D sc_figures_of G_figures_of rfl fun f cdv A outer s H E hr => ?_
  have hu := hr.units
  refine ⟨_, (jss_cons (js_set (je_ref (jl_lst ja_nil)) (pg_name (i := 1) sc_figures_of.nd rfl (by first | exact Or.inl rfl | exact Or.inr rfl))) (jss_cons (js_set (je_var (pv 0)) (pg_name (i := 2) sc_figures_of.nd rfl (by first | exact Or.inl rfl | exact Or.inr rfl))) (jss_cut (js_while passes_def (jt_cmp o_ge (je_var (pv 2)) (je_gi (by rfl) T.g_FIGURE) (nomark _)) (jss_cons (js_drop (je_meth PySem.F.plainAttrs_list PySem.F.slot_list_append PySem.F.type_list_append m_append (je_var (pv 1)) (ja_cons (je_op o_add (je_op o_mod (je_var (pv 2)) (je_gi (by rfl) T.g_FIGURE)) (je_gi (by rfl) T.g_FIGURE)) ja_nil))) (jss_one (js_set (je_op o_fdiv (je_var (pv 2)) (je_gi (by rfl) T.g_FIGURE)) (pg_name (i := 2) sc_figures_of.nd rfl (by first | exact Or.inl rfl | exact Or.inr rfl)))))) (jss_one (js_ret (je_op o_add (je_callT c_tuple (by rfl) T.n_tuple (by decide +kernel) (ja_cons (je_var (pv 1)) ja_nil)) (je_tup (ja_cons (je_var (pv 2)) ja_nil)))))))), fun ws S Q Ex hl g => ?_⟩
  obtain ⟨n, rfl, h0, h1, g⟩ := g
  walk_at "ny"
  intro p hp
  walk_at "ny"
  refine ⟨fun σ S' => ∃ (acc : List Int) (cur : Int), S' = sup S p (.lst (acc.map Dt.int)) ∧ σ = [some (.int n), some (.ref p), some (.int cur)] ∧ acc.length ≤ 10 ∧ acc ++ [cur] = figF 10 n, ?_, ?_⟩
  · refine mWhile_rule (fun m σ S' => ∃ (acc : List Int) (cur : Int), S' = sup S p (.lst (acc.map Dt.int)) ∧ σ = [some (.int n), some (.ref p), some (.int cur)] ∧ 0 ≤ cur ∧ cur < 128 ^ m ∧ acc.length + m = 10 ∧ acc ++ figF m cur = figF 10 n) 10 ⟨[], n, rfl, rfl, h0, h1, rfl, rfl⟩ ?_
    rintro m σ S' N ⟨acc, cur, rfl, rfl, hc0, hc1, hl, he⟩ hN
    walk_at "nx"
    by_cases hc : cur < 128
    · rw [decide_eq_false (show ¬ (128 : Int) ≤ cur by omega)]
      walk_at "nx"
      exact ⟨acc, cur, rfl, rfl, by omega, by rw [figF_small hc] at he; exact he⟩
    · rw [decide_eq_true (show (128 : Int) ≤ cur by omega)]
      walk_at "nx"
      refine ⟨ty_lst sup_same, ?_⟩
      walk_at "ny"
      rw [sup_same]
      walk_at "nx"
      refine ⟨by rw [List.length_map]; show _ < 16777216; omega, ?_⟩
      walk_at "ny"
      rw [sup_sup]
      cases m with
      | zero => exact absurd (show cur < 1 from hc1) (by omega)
      | succ m =>
        refine hN m _ _ (Nat.lt_succ_self m) ⟨acc ++ [cur % 128 + 128], cur / 128, by rw [List.map_append]; rfl, rfl, by omega, Int.ediv_lt_of_lt_mul (by decide) (by rw [Int.pow_succ] at hc1; exact hc1), by rw [List.length_append]; show acc.length + 1 + m = 10; omega, ?_⟩
        rw [figF_big hc] at he
        rw [List.append_assoc]
        exact he
  · rintro σ S' ⟨acc, cur, rfl, rfl, hl, he⟩
    walk_at "nx"
    rw [lsv_ref sup_same]
    walk_at "ny"
    refine ⟨by rw [List.length_map]; show _ + 1 ≤ 16777216; omega, ?_⟩
    walk_at "nx"
    have e : acc.map Dt.int ++ [Dt.int cur] = (figF 10 n).map Dt.int := by rw [← he, List.map_append]; rfl
    rw [e]
    exact clo.sub g (sub_sup hp)
/-! ### part_row -/
def G_part_row : Fw := fun ws S Q _ => ∃ kind many : Nat, ws = [.int kind, .int many] ∧ kind ≤ 2 ∧ many ≤ 1000000 ∧ Q (.tup ((partR kind many).map Dt.int)) S
theorem ok_part_row (T : Txt P w K mg base c_NoRow c_BadChange) (D : Dfn K mg "part_row" s_part_row ["kind", "many"]) (C_figures_of : Cal P w K mg base "figures_of" 1 ["number"] 1 G_figures_of) : Cal P w K mg base "part_row" 2 ["kind", "many"] 2 G_part_row := by
  refine cal_of D sc_part_row G_part_row rfl fun f cdv A outer s H E hr => ?_
  have hu := hr.units
  refine ⟨_, (jss_one (js_ret (je_if (jt_cmp o_gt (je_var (pv 1)) je_int (nomark _)) (je_cal C_figures_of (hr.mono (by omega)) takes_def (by rfl) (ja_cons (je_op o_add (je_op o_mul je_int (je_var (pv 1))) (je_var (pv 0))) ja_nil)) (je_tup ja_nil)))), fun ws S Q Ex hl g => ?_⟩
  obtain ⟨kind, many, rfl, hk, hm, g⟩ := g
  unfold partR at g
  walk_at "ny"
  by_cases h : 0 < many
  · rw [decide_eq_true (show (0 : Int) < (many : Int) by omega)]
    rw [if_pos h] at g
    walk_at "ny"
    exact ⟨_, rfl, by omega, by omega, clo.of g⟩
  · rw [decide_eq_false (show ¬ (0 : Int) < (many : Int) by omega)]
    rw [if_neg h] at g
    walk_at "ny"
    exact clo.of g
/-! ### change_of -/
def G_change_of : Fw := fun ws S Q _ => ∃ one other : List Int, ws = [.tup (one.map Dt.int), .tup (other.map Dt.int)] ∧ one.length ≤ 5000 ∧ other.length ≤ 5000 ∧ (∀ x ∈ other, 0 ≤ x ∧ x ≤ 255) ∧ ∀ row : List Int, ChgOk one other row → Q (.tup (row.map Dt.int)) S
theorem ok_change_of (T : Txt P w K mg base c_NoRow c_BadChange) (D : Dfn K mg "change_of" s_change_of ["one", "other"]) (C_part_row : Cal P w K mg base "part_row" 2 ["kind", "many"] 2 G_part_row) (C_common_end : Cal P w K mg base "common_end" 1 ["one", "other", "most"] 3 G_common_end) (C_common_begin : Cal P w K mg base "common_begin" 1 ["one", "other"] 2 G_common_begin) : Cal P w K mg base "change_of" 3 ["one", "other"] 2 G_change_of := by
  refine cal_of D sc_change_of G_change_of rfl fun f cdv A outer s H E hr => ?_
  have hu := hr.units
  refine ⟨_, (jss_cons (js_set (je_cal C_common_begin (hr.mono (by omega)) takes_def (by rfl) (ja_cons (je_var (pv 0)) (ja_cons (je_var (pv 1)) ja_nil))) (pg_name (i := 2) sc_change_of.nd rfl (by first | exact Or.inl rfl | exact Or.inr rfl))) (jss_cons (js_set (je_cal C_common_end (hr.mono (by omega)) takes_def (by rfl) (ja_cons (je_var (pv 0)) (ja_cons (je_var (pv 1)) (ja_cons (je_op o_sub (je_callB (c_min rfl) (by rfl) T.n_min (by decide +kernel) (ja_cons (je_callB (c_len) (by rfl) T.n_len (by decide +kernel) (ja_cons (je_var (pv 0)) ja_nil)) (ja_cons (je_callB (c_len) (by rfl) T.n_len (by decide +kernel) (ja_cons (je_var (pv 1)) ja_nil)) ja_nil))) (je_var (pv 2))) ja_nil)))) (pg_name (i := 3) sc_change_of.nd rfl (by first | exact Or.inl rfl | exact Or.inr rfl))) (jss_cut (js_if (jt_cmp o_lt (je_var (pv 2)) (je_gi (by rfl) T.g_LEAST_KEPT) (nomark _)) (jss_one (js_set je_int (pg_name (i := 2) sc_change_of.nd rfl (by first | exact Or.inl rfl | exact Or.inr rfl)))) jss_nil) (jss_cut (js_if (jt_cmp o_lt (je_var (pv 3)) (je_gi (by rfl) T.g_LEAST_KEPT) (nomark _)) (jss_one (js_set je_int (pg_name (i := 3) sc_change_of.nd rfl (by first | exact Or.inl rfl | exact Or.inr rfl)))) jss_nil) (jss_cons (js_set (je_slice o_slice (je_var (pv 1)) (jo_some (je_var (pv 2))) (jo_some (je_op o_sub (je_callB (c_len) (by rfl) T.n_len (by decide +kernel) (ja_cons (je_var (pv 1)) ja_nil)) (je_var (pv 3))))) (pg_name (i := 4) sc_change_of.nd rfl (by first | exact Or.inl rfl | exact Or.inr rfl))) (jss_cons (js_set (je_if (jt_cmp o_gt (je_var (pv 3)) je_int (nomark _)) (je_op o_sub (je_op o_sub (je_callB (c_len) (by rfl) T.n_len (by decide +kernel) (ja_cons (je_var (pv 0)) ja_nil)) (je_var (pv 2))) (je_var (pv 3))) je_int) (pg_name (i := 5) sc_change_of.nd rfl (by first | exact Or.inl rfl | exact Or.inr rfl))) (jss_cons (js_set (je_op o_add (je_cal C_part_row (hr.mono (by omega)) takes_def (by rfl) (ja_cons (je_gi (by rfl) T.g_KEPT) (ja_cons (je_var (pv 2)) ja_nil))) (je_cal C_part_row (hr.mono (by omega)) takes_def (by rfl) (ja_cons (je_gi (by rfl) T.g_LEFT_OUT) (ja_cons (je_var (pv 5)) ja_nil)))) (pg_name (i := 6) sc_change_of.nd rfl (by first | exact Or.inl rfl | exact Or.inr rfl))) (jss_one (js_ret (je_op o_add (je_op o_add (je_op o_add (je_var (pv 6)) (je_cal C_part_row (hr.mono (by omega)) takes_def (by rfl) (ja_cons (je_gi (by rfl) T.g_PUT_IN) (ja_cons (je_callB (c_len) (by rfl) T.n_len (by decide +kernel) (ja_cons (je_var (pv 4)) ja_nil)) ja_nil)))) (je_var (pv 4))) (je_cal C_part_row (hr.mono (by omega)) takes_def (by rfl) (ja_cons (je_gi (by rfl) T.g_KEPT) (ja_cons (je_var (pv 3)) ja_nil))))))))))))), fun ws S Q Ex hl g => ?_⟩
  obtain ⟨one, other, rfl, hl1, hl2, hb, g⟩ := g
  have l1 : (one.map Dt.int).length = one.length := List.length_map ..
  have l2 : (other.map Dt.int).length = other.length := List.length_map ..
  walk_at "ny"
  refine ⟨one, other, rfl, by omega, by omega, fun b b1 b2 bt bs => ?_⟩
  have hmin : (if ((other.map Dt.int).length : Int) < ((one.map Dt.int).length : Int) then ((other.map Dt.int).length : Int) else ((one.map Dt.int).length : Int)) - (b : Int) = ((min one.length other.length - b : Nat) : Int) := by split <;> omega
  walk_at "ny"
  rw [hmin]
  refine ⟨one, other, _, rfl, by omega, by omega, by omega, by omega, fun e e1 et => ?_⟩
  walk_at "ny"
  refine ⟨fun σ S' => ∃ (b : Nat) (y4 y5 y6 : Option Dt), S' = S ∧ σ = [some (.tup (one.map Dt.int)), some (.tup (other.map Dt.int)), some (.int b), some (.int e), y4, y5, y6] ∧ b + e ≤ one.length ∧ b + e ≤ other.length ∧ one.take b = other.take b ∧ (one = other → e = 0 ∧ (b = one.length ∨ one.length ≤ 7)), ?_, ?_⟩
  · by_cases hc : b < 8
    · walk_at "ny"
      rw [decide_eq_true (show (b : Int) < 8 by omega)]
      walk_at "ny"
      exact ⟨0, _, _, _, rfl, rfl, by omega, by omega, rfl, fun z => ⟨by have := bs z; subst z; omega, .inr (by have := bs z; omega)⟩⟩
    · walk_at "ny"
      rw [decide_eq_false (show ¬ (b : Int) < 8 by omega)]
      walk_at "ny"
      exact ⟨b, _, _, _, rfl, rfl, by omega, by omega, bt, fun z => ⟨by have := bs z; subst z; omega, .inl (bs z)⟩⟩
  · rintro σ S' ⟨b, y4, y5, y6, rfl, rfl, c1, c2, bt, same⟩
    refine ⟨fun σ S'' => ∃ (e : Nat) (y4 y5 y6 : Option Dt), S'' = S' ∧ σ = [some (.tup (one.map Dt.int)), some (.tup (other.map Dt.int)), some (.int b), some (.int e), y4, y5, y6] ∧ b + e ≤ one.length ∧ b + e ≤ other.length ∧ one.drop (one.length - e) = other.drop (other.length - e) ∧ (one = other → e = 0 ∧ (b = one.length ∨ one.length ≤ 7)), ?_, ?_⟩
    · by_cases hc : e < 8
      · walk_at "ny"
        rw [decide_eq_true (show (e : Int) < 8 by omega)]
        walk_at "ny"
        exact ⟨0, _, _, _, rfl, rfl, by omega, by omega, by simp, fun z => ⟨rfl, (same z).2⟩⟩
      · walk_at "ny"
        rw [decide_eq_false (show ¬ (e : Int) < 8 by omega)]
        walk_at "ny"
        exact ⟨e, _, _, _, rfl, rfl, c1, c2, et, same⟩
    · rintro σ S'' ⟨e, y4, y5, y6, rfl, rfl, c1, c2, et, same⟩
      have hR := chg_ok hl1 hl2 hb c1 c2 bt et same
      have g := fun row h => clo.of (Q := Q) (g row h)
      have p1 := partR_len (kind := 0) (many := b) (by omega) (by omega)
      have p2 := partR_len (kind := 1) (many := if 0 < e then one.length - b - e else 0) (by omega) (by split <;> omega)
      have p3 := partR_len (kind := 2) (many := other.length - e - b) (by omega) (by omega)
      have p4 := partR_len (kind := 0) (many := e) (by omega) (by omega)
      have hmid : cutW (other.map Dt.int) (some (b : Int)) (some (((other.map Dt.int).length : Int) - (e : Int))) = ((other.drop b).take (other.length - e - b)).map Dt.int := by
        rw [show ((other.map Dt.int).length : Int) - (e : Int) = (b : Int) + (((other.length - e - b : Nat) : Int)) by omega, cutW_ints rfl]
      have lm : ((other.drop b).take (other.length - e - b)).length = other.length - e - b := by rw [List.length_take, List.length_drop]; omega
      walk_at "ny"
      rw [hmid]
      have go : ∀ out : Nat, (if 0 < e then one.length - b - e else 0) = out → ∃ z : Int, z = (out : Int) := fun out _ => ⟨_, rfl⟩
      by_cases h0 : 0 < e
      · rw [decide_eq_true (show (0 : Int) < (e : Int) by omega)]
        rw [if_pos h0] at hR p2
        walk_at "ny"
        rw [show ((one.map Dt.int).length : Int) - (b : Int) - (e : Int) = ((one.length - b - e : Nat) : Int) by omega]
        refine ⟨0, b, rfl, by omega, by omega, ?_⟩
        walk_at "ny"
        refine ⟨1, one.length - b - e, rfl, by omega, by omega, ?_⟩
        walk_at "ny"
        refine ⟨by rw [List.length_map, List.length_map]; show _ ≤ 16777216; omega, ?_⟩
        rw [← List.map_append]
        walk_at "ny"
        refine ⟨2, _, rfl, by omega, by rw [List.length_map]; omega, ?_⟩
        rw [List.length_map, lm]
        walk_at "ny"
        refine ⟨by rw [List.length_map, List.length_map, List.length_append]; show _ ≤ 16777216; omega, ?_⟩
        rw [← List.map_append]
        walk_at "ny"
        refine ⟨by rw [List.length_map, List.length_map, List.length_append, List.length_append, lm]; show _ ≤ 16777216; omega, ?_⟩
        rw [← List.map_append]
        walk_at "ny"
        refine ⟨0, e, rfl, by omega, by omega, ?_⟩
        walk_at "ny"
        refine ⟨by rw [List.length_map, List.length_map, List.length_append, List.length_append, List.length_append, lm]; show _ ≤ 16777216; omega, ?_⟩
        rw [← List.map_append]
        exact g _ hR
      · rw [decide_eq_false (show ¬ (0 : Int) < (e : Int) by omega)]
        rw [if_neg h0] at hR p2
        walk_at "ny"
        refine ⟨0, b, rfl, by omega, by omega, ?_⟩
        walk_at "ny"
        refine ⟨1, 0, rfl, by omega, by omega, ?_⟩
        walk_at "ny"
        refine ⟨by rw [List.length_map, List.length_map]; show _ ≤ 16777216; omega, ?_⟩
        rw [← List.map_append]
        walk_at "ny"
        refine ⟨2, _, rfl, by omega, by rw [List.length_map]; omega, ?_⟩
        rw [List.length_map, lm]
        walk_at "ny"
        refine ⟨by rw [List.length_map, List.length_map, List.length_append]; show _ ≤ 16777216; omega, ?_⟩
        rw [← List.map_append]
        walk_at "ny"
        refine ⟨by rw [List.length_map, List.length_map, List.length_append, List.length_append, lm]; show _ ≤ 16777216; omega, ?_⟩
        rw [← List.map_append]
        walk_at "ny"
        refine ⟨0, e, rfl, by omega, by omega, ?_⟩
        walk_at "ny"
        refine ⟨by rw [List.length_map, List.length_map, List.length_append, List.length_append, List.length_append, lm]; show _ ≤ 16777216; omega, ?_⟩
        rw [← List.map_append]
        exact g _ hR
/-! ### change -/
def G_change (c_NoRow : Addr) : Fw := fun ws S Q Ex => ∃ w z, ws = [w, z] ∧ pl w = true ∧ pl z = true ∧ (∀ one other : List Int, w = .tup (one.map Dt.int) → z = .tup (other.map Dt.int) → rowW w = true → rowW z = true → one.length ≤ 5000 ∧ other.length ≤ 5000 ∧ ∀ row : List Int, ChgOk one other row → Q (.tup (row.map Dt.int)) S) ∧ ((rowW w && rowW z) = false → Ex ⟨.ref c_NoRow, none⟩ S)
theorem ok_change (T : Txt P w K mg base c_NoRow c_BadChange) (D : Dfn K mg "change" s_change ["one", "other"]) (C_change_of : Cal P w K mg base "change_of" 3 ["one", "other"] 2 G_change_of) (C_check_row : Cal P w K mg base "check_row" 5 ["thing"] 1 (G_check_row c_NoRow)) : Cal P w K mg base "change" 6 ["one", "other"] 2 (G_change c_NoRow) := by
  refine cal_of D sc_change (G_change c_NoRow) rfl fun f cdv A outer s H E hr => ?_
  have hu := hr.units
  refine ⟨_, (jss_cons (js_drop (je_cal C_check_row (hr.mono (by omega)) takes_def (by rfl) (ja_cons (je_var (pv 0)) ja_nil))) (jss_cons (js_drop (je_cal C_check_row (hr.mono (by omega)) takes_def (by rfl) (ja_cons (je_var (pv 1)) ja_nil))) (jss_one (js_ret (je_cal C_change_of (hr.mono (by omega)) takes_def (by rfl) (ja_cons (je_var (pv 0)) (ja_cons (je_var (pv 1)) ja_nil))))))), fun ws S Q Ex hl g => ?_⟩
  obtain ⟨w, z, rfl, kw, kz, g1, g2⟩ := g
  walk_at "ny"
  refine ⟨w, rfl, kw, fun h1 => ?_, fun h1 => clX.of (g2 (by rw [h1]; rfl))⟩
  walk_at "ny"
  refine ⟨z, rfl, kz, fun h2 => ?_, fun h2 => clX.of (g2 (by rw [h1, h2]; rfl))⟩
  obtain ⟨one, rfl, _, _⟩ := rowW_of h1
  obtain ⟨other, rfl, _, hb⟩ := rowW_of h2
  obtain ⟨a1, a2, g1⟩ := g1 one other rfl rfl h1 h2
  walk_at "ny"
  exact ⟨one, other, rfl, a1, a2, hb, fun row h => clo.of (g1 row h)⟩
/-! ### _law_is_integer -/
def G__law_is_integer : Fw := fun ws S Q _ => ∃ w, ws = [w] ∧ kn S w ∧ Q (.bl (isI w)) S
theorem ok__law_is_integer (T : Txt P w K mg base c_NoRow c_BadChange) (D : Dfn K mg "_law_is_integer" s__law_is_integer ["_law_thing"])  : Cal P w K mg base "_law_is_integer" 1 ["_law_thing"] 1 G__law_is_integer := by
  refine cal_of D sc__law_is_integer G__law_is_integer rfl fun f cdv A outer s H E hr => ?_
  have hu := hr.units
  refine ⟨_, (jss_one (js_ret (je_and (je_callB (c_isi) (by rfl) T.n_isinstance (by decide +kernel) (ja_cons (je_var (pv 0)) (ja_cons (je_bty (T := "int") (by rfl) T.n_int (by decide +kernel)) ja_nil))) (je_one (je_not (je_callB (c_isi) (by rfl) T.n_isinstance (by decide +kernel) (ja_cons (je_var (pv 0)) (ja_cons (je_bty (T := "bool") (by rfl) T.n_bool (by decide +kernel)) ja_nil)))))))), fun ws S Q Ex hl g => ?_⟩
  obtain ⟨w, rfl, ⟨t, kt⟩, g⟩ := g
  walk_at "dn"
  simp only [kt, kI kt, kB kt]
  have e : clo Q (.bl (isI w)) S := clo.of g
  cases w <;> simpa [isI, isB] using e
/-! ### _law_same -/
def G__law_same (d : Nat) : Fw := fun ws S Q _ => ∃ a b, ws = [a, b] ∧ pl a = true ∧ nice b = true ∧ dep b < d ∧ Q (.bl (sameW a b)) S
theorem ok__law_same (T : Txt P w K mg base c_NoRow c_BadChange) (D : Dfn K mg "_law_same" s__law_same ["_law_actual", "_law_due"]) (C__law_is_integer : Cal P w K mg base "_law_is_integer" 1 ["_law_thing"] 1 G__law_is_integer) : ∀ d : Nat, Cal P w K mg base "_law_same" (d + 1) ["_law_actual", "_law_due"] 2 (G__law_same d)
  | 0 => (cal_false D).imp fun ws S Q Ex hl g => by
      obtain ⟨a, b, _, _, _, h, _⟩ := g
      exact absurd h (Nat.not_lt_zero _)
  | d + 1 => by
    have C__law_same := ok__law_same T D C__law_is_integer d
    refine cal_of D sc__law_same (G__law_same (d + 1)) rfl fun f cdv A outer s H E hr => ?_
    have hu := hr.units
    refine ⟨_, (jss_cons (js_if (jt_cmp o_is (je_var (pv 1)) je_non (nomark _)) (jss_one (js_ret (je_cmp o_is (je_var (pv 0)) je_non (nomark _)))) jss_nil) (jss_cons (js_if (jt_cmp o_is (je_var (pv 1)) je_bl (nomark _)) (jss_one (js_ret (je_cmp o_is (je_var (pv 0)) je_bl (nomark _)))) jss_nil) (jss_cons (js_if (jt_cmp o_is (je_var (pv 1)) je_bl (nomark _)) (jss_one (js_ret (je_cmp o_is (je_var (pv 0)) je_bl (nomark _)))) jss_nil) (jss_cons (js_if (jt_val (je_callB (c_isi) (by rfl) T.n_isinstance (by decide +kernel) (ja_cons (je_var (pv 1)) (ja_cons (je_bty (T := "int") (by rfl) T.n_int (by decide +kernel)) ja_nil)))) (jss_one (js_ret (je_and (je_cal C__law_is_integer (hr.mono (by omega)) takes_def (by rfl) (ja_cons (je_var (pv 0)) ja_nil)) (je_one (je_cmp (o_eq hu) (je_var (pv 0)) (je_var (pv 1)) (nomark _)))))) jss_nil) (jss_cons (js_if (jt_val (je_callB (c_isi) (by rfl) T.n_isinstance (by decide +kernel) (ja_cons (je_var (pv 1)) (ja_cons (je_bty (T := "str") (by rfl) T.n_str (by decide +kernel)) ja_nil)))) (jss_one (js_ret (je_and (je_callB (c_isi) (by rfl) T.n_isinstance (by decide +kernel) (ja_cons (je_var (pv 0)) (ja_cons (je_bty (T := "str") (by rfl) T.n_str (by decide +kernel)) ja_nil))) (je_one (je_cmp (o_eq hu) (je_var (pv 0)) (je_var (pv 1)) (nomark _)))))) jss_nil) (jss_cons (js_if (jt_w (jw_or (jt_cmp (o_ne hu) (je_callB (c_isi) (by rfl) T.n_isinstance (by decide +kernel) (ja_cons (je_var (pv 1)) (ja_cons (je_bty (T := "tuple") (by rfl) T.n_tuple (by decide +kernel)) ja_nil))) (je_callB (c_isi) (by rfl) T.n_isinstance (by decide +kernel) (ja_cons (je_var (pv 0)) (ja_cons (je_bty (T := "tuple") (by rfl) T.n_tuple (by decide +kernel)) ja_nil))) (nomark _)) (jw_one (jt_cmp (o_ne hu) (je_callB (c_isi) (by rfl) T.n_isinstance (by decide +kernel) (ja_cons (je_var (pv 1)) (ja_cons (je_bty (T := "list") (by rfl) T.n_list (by decide +kernel)) ja_nil))) (je_callB (c_isi) (by rfl) T.n_isinstance (by decide +kernel) (ja_cons (je_var (pv 0)) (ja_cons (je_bty (T := "list") (by rfl) T.n_list (by decide +kernel)) ja_nil))) (nomark _))))) (jss_one (js_ret je_bl)) jss_nil) (jss_cons (js_if (jt_cmp (o_ne hu) (je_callB (c_len) (by rfl) T.n_len (by decide +kernel) (ja_cons (je_var (pv 0)) ja_nil)) (je_callB (c_len) (by rfl) T.n_len (by decide +kernel) (ja_cons (je_var (pv 1)) ja_nil)) (nomark _)) (jss_one (js_ret je_bl)) jss_nil) (jss_cons (js_for passes_def rfl (ji_zip (by rfl) T.n_zip (ja_cons (je_var (pv 0)) (ja_cons (je_var (pv 1)) ja_nil))) (jg_tup (n := 2) rfl (jgs_cons (jg_name (pg_name (i := 2) sc__law_same.nd rfl (by first | exact Or.inl rfl | exact Or.inr rfl))) (jgs_cons (jg_name (pg_name (i := 3) sc__law_same.nd rfl (by first | exact Or.inl rfl | exact Or.inr rfl))) jgs_nil))) (jss_one (js_if (jt_not (jt_val (je_cal C__law_same (hr.mono (by omega)) takes_def (by rfl) (ja_cons (je_var (pv 2)) (ja_cons (je_var (pv 3)) ja_nil))))) (jss_one (js_ret je_bl)) jss_nil))) (jss_one (js_ret je_bl)))))))))), fun ws S Q Ex hl g => ?_⟩
    obtain ⟨a, b, rfl, ha, hb, hd, g⟩ := g
    obtain ⟨t, kt⟩ := kn_pl (S := S) ha
    have e : clo Q (.bl (sameW a b)) S := clo.of g
    cases b with
    | non => walk_at "nx"; unfold sameW at e; exact e
    | bl b =>
      unfold sameW at e
      cases b <;> (walk_at "nx"; exact e)
    | int i =>
      walk_at "nx"
      refine ⟨rfl, a, rfl, ⟨t, kt⟩, ?_⟩
      cases a <;> (walk_at "nx"; unfold sameW at e; exact e)
    | str x =>
      cases a <;> first | exact Bool.noConfusion (show false = true from ha) | (walk_at "nx"; unfold sameW at e; exact e)
    | tup bs =>
      cases a with
      | tup as =>
        walk_at "nx"
        unfold sameW at e
        by_cases h : (as.length : Int) = (bs.length : Int)
        · rw [decide_eq_true h]
          walk_at "nx"
          have hz : as.length = bs.length := by omega
          refine forW_rule (fun i σ S' => ∃ y1 y2, S' = S ∧ σ = [some (.tup as), some (.tup bs), y1, y2] ∧ ∀ (j : Nat) (x y : Dt), j < i → as[j]? = some x → bs[j]? = some y → sameW x y = true) ⟨_, _, rfl, rfl, fun j x y h => absurd h (Nat.not_lt_zero _)⟩ ?_ ?_
          · rintro i w σ S' N ew ⟨y1, y2, rfl, rfl, hj⟩ hN
            obtain ⟨x, y, ex, ey, rfl⟩ := zipW_get ew
            refine ⟨trivial, ?_⟩
            walk_at "nx"
            refine ⟨rfl, ?_⟩
            walk_at "nx"
            have hnb := niceL_at (show nice.niceL bs = true from by unfold nice at hb; exact hb) ey
            have hdd : 1 + dep.depL bs < d + 1 := by unfold dep at hd; exact hd
            refine ⟨rfl, x, y, rfl, pl_tup ha x (List.mem_of_getElem? ex), hnb.1, by omega, ?_⟩
            cases hs : sameW x y with
            | true =>
              walk_at "nx"
              refine hN _ _ ⟨some x, some y, rfl, rfl, fun j x' y' hj' e1 e2 => ?_⟩
              by_cases ej : j = i
              · subst ej
                rw [ex] at e1
                rw [ey] at e2
                cases e1
                cases e2
                exact hs
              · exact hj j x' y' (by omega) e1 e2
            | false =>
              walk_at "nx"
              rw [sameL_at ex ey hs] at e
              exact e
          · rintro σ S' ⟨y1, y2, rfl, rfl, hj⟩
            refine ⟨trivial, ?_⟩
            walk_at "nx"
            rw [sameL_all hz fun i x y e1 e2 => hj i x y (by
              have := (List.getElem?_eq_some_iff.mp e1).1
              rw [zipW_len]
              omega) e1 e2] at e
            exact e
        · rw [decide_eq_false h]
          walk_at "nx"
          rw [sameL_len fun z => h (by rw [z])] at e
          exact e
      | _ => first | exact Bool.noConfusion (show false = true from ha) | (walk_at "nx"; unfold sameW at e; exact e)
    | lst bs =>
      cases a with
      | lst as =>
        walk_at "nx"
        unfold sameW at e
        by_cases h : (as.length : Int) = (bs.length : Int)
        · rw [decide_eq_true h]
          walk_at "nx"
          have hz : as.length = bs.length := by omega
          refine forW_rule (fun i σ S' => ∃ y1 y2, S' = S ∧ σ = [some (.lst as), some (.lst bs), y1, y2] ∧ ∀ (j : Nat) (x y : Dt), j < i → as[j]? = some x → bs[j]? = some y → sameW x y = true) ⟨_, _, rfl, rfl, fun j x y h => absurd h (Nat.not_lt_zero _)⟩ ?_ ?_
          · rintro i w σ S' N ew ⟨y1, y2, rfl, rfl, hj⟩ hN
            obtain ⟨x, y, ex, ey, rfl⟩ := zipW_get ew
            refine ⟨trivial, ?_⟩
            walk_at "nx"
            refine ⟨rfl, ?_⟩
            walk_at "nx"
            have hnb := niceL_at (show nice.niceL bs = true from by unfold nice at hb; exact hb) ey
            have hdd : 1 + dep.depL bs < d + 1 := by unfold dep at hd; exact hd
            refine ⟨rfl, x, y, rfl, plL_all (show pl.plL as = true from by unfold pl at ha; exact ha) x (List.mem_of_getElem? ex), hnb.1, by omega, ?_⟩
            cases hs : sameW x y with
            | true =>
              walk_at "nx"
              refine hN _ _ ⟨some x, some y, rfl, rfl, fun j x' y' hj' e1 e2 => ?_⟩
              by_cases ej : j = i
              · subst ej
                rw [ex] at e1
                rw [ey] at e2
                cases e1
                cases e2
                exact hs
              · exact hj j x' y' (by omega) e1 e2
            | false =>
              walk_at "nx"
              rw [sameL_at ex ey hs] at e
              exact e
          · rintro σ S' ⟨y1, y2, rfl, rfl, hj⟩
            refine ⟨trivial, ?_⟩
            walk_at "nx"
            rw [sameL_all hz fun i x y e1 e2 => hj i x y (by
              have := (List.getElem?_eq_some_iff.mp e1).1
              rw [zipW_len]
              omega) e1 e2] at e
            exact e
        · rw [decide_eq_false h]
          walk_at "nx"
          rw [sameL_len fun z => h (by rw [z])] at e
          exact e
      | _ => first | exact Bool.noConfusion (show false = true from ha) | (walk_at "nx"; unfold sameW at e; exact e)
    | _ => exact Bool.noConfusion (show false = true from hb)
/-! ### number_at -/
def G_number_at : Fw := fun ws S Q _ => ∃ (bs : List Int) (a : Nat), ws = [.tup (bs.map Dt.int), .int a] ∧ a ≤ bs.length ∧ bs.length ≤ 300000 ∧ (∀ b ∈ bs, 0 ≤ b ∧ b ≤ 255) ∧ Q (optD a (numAt bs a)) S
theorem ok_number_at (T : Txt P w K mg base c_NoRow c_BadChange) (D : Dfn K mg "number_at" s_number_at ["row", "at"])  : Cal P w K mg base "number_at" 1 ["row", "at"] 2 G_number_at := by
  refine cal_of D sc_number_at G_number_at rfl fun f cdv A outer s H E hr => ?_
  have hu := hr.units
  refine ⟨_, (jss_cons (js_set je_int (pg_name (i := 2) sc_number_at.nd rfl (by first | exact Or.inl rfl | exact Or.inr rfl))) (jss_cons (js_set je_int (pg_name (i := 3) sc_number_at.nd rfl (by first | exact Or.inl rfl | exact Or.inr rfl))) (jss_cons (js_for passes_def rfl (ji_rng2 (by rfl) T.n_range (ja_cons (je_var (pv 1)) (ja_cons (je_callB (c_min rfl) (by rfl) T.n_min (by decide +kernel) (ja_cons (je_callB (c_len) (by rfl) T.n_len (by decide +kernel) (ja_cons (je_var (pv 0)) ja_nil)) (ja_cons (je_op o_add (je_var (pv 1)) (je_gi (by rfl) T.g_MOST_FIGURES)) ja_nil))) ja_nil))) (jg_name (pg_name (i := 4) sc_number_at.nd rfl (by first | exact Or.inl rfl | exact Or.inr rfl))) (jss_cons (js_aug (i := 2) sc_number_at.nd rfl (by first | exact Or.inl rfl | exact Or.inr rfl) (je_op o_mul (je_op o_mod (je_ix o_ix (je_var (pv 0)) (je_var (pv 4)) (fun _ _ => rfl)) (je_gi (by rfl) T.g_FIGURE)) (je_var (pv 3))) i_add) (jss_cons (js_set (je_op o_mul (je_var (pv 3)) (je_gi (by rfl) T.g_FIGURE)) (pg_name (i := 3) sc_number_at.nd rfl (by first | exact Or.inl rfl | exact Or.inr rfl))) (jss_one (js_if (jt_cmp o_lt (je_ix o_ix (je_var (pv 0)) (je_var (pv 4)) (fun _ _ => rfl)) (je_gi (by rfl) T.g_FIGURE) (nomark _)) (jss_cons (js_set (je_and (je_cmp (o_eq hu) (je_ix o_ix (je_var (pv 0)) (je_var (pv 4)) (fun _ _ => rfl)) je_int (nomark _)) (je_one (je_cmp o_gt (je_var (pv 4)) (je_var (pv 1)) (nomark _)))) (pg_name (i := 5) sc_number_at.nd rfl (by first | exact Or.inl rfl | exact Or.inr rfl))) (jss_one (js_ret (je_if (jt_w (jw_or (jt_val (je_var (pv 5))) (jw_one (jt_cmp o_ge (je_var (pv 2)) (je_gi (by rfl) T.g_WHOLE_BOUND) (nomark _))))) je_non (je_tup (ja_cons (je_var (pv 2)) (ja_cons (je_op o_add (je_var (pv 4)) je_int) ja_nil))))))) jss_nil))))) (jss_one (js_ret je_non))))), fun ws S Q Ex hl g => ?_⟩
  obtain ⟨bs, a, rfl, ha, hl, hb, g⟩ := g
  have g : clo Q (optD a (numAt bs a)) S := clo.of g
  have hlm : (bs.map Dt.int).length = bs.length := List.length_map ..
  walk_at "ny"
  have hi : ((if (a : Int) + 10 < ((bs.map Dt.int).length : Int) then (a : Int) + 10 else ((bs.map Dt.int).length : Int)) - (a : Int)).toNat = min 10 (bs.length - a) := by
    rw [hlm]
    split <;> omega
  rw [hi]
  refine forW_rule (fun i σ S' => ∃ (v p : Int) (y1 y2 : Option Dt), S' = S ∧ σ = [some (.tup (bs.map Dt.int)), some (.int a), some (.int v), some (.int p), y1, y2] ∧ numAt bs a = numG (bs.drop (a + i)) (10 - i) v p i) ⟨0, 1, none, none, rfl, rfl, rfl⟩ ?_ ?_
  · rintro i w σ S' N ew ⟨v, p, y1, y2, rfl, rfl, he⟩ hN
    have h10 := (List.getElem?_eq_some_iff.mp ew).1
    rw [rangeW_len] at h10
    rw [rangeW_get _ _ _ h10] at ew
    cases ew
    have hlt : a + i < bs.length := by omega
    have hbb := hb _ (List.getElem_mem hlt)
    have hdr : bs.drop (a + i) = bs[a + i] :: bs.drop (a + i + 1) := List.drop_eq_getElem_cons hlt
    have hat : atI (bs.map Dt.int) ((a : Int) + (i : Int)) = some (.int bs[a + i]) := by
      rw [Dn.atI_get (by omega), List.getElem?_map, show ((a : Int) + (i : Int)).toNat = a + i by omega, List.getElem?_eq_getElem hlt]
      rfl
    generalize bs[a + i] = b at hbb hdr hat
    rw [hdr, show 10 - i = 10 - (i + 1) + 1 by omega] at he
    refine ⟨trivial, ?_⟩
    walk_at "nx"
    rw [hat]
    walk_at "ny"
    refine ⟨.inl ⟨by omega, by omega⟩, ?_⟩
    walk_at "ny"
    rw [hat]
    walk_at "ny"
    by_cases hc : b < 128
    · rw [numG_last hc] at he
      rw [decide_eq_true hc]
      walk_at "ny"
      rw [hat]
      walk_at "ny"
      have fin : ∀ hn : ¬ (b = 0 ∧ 0 < i), (18446744073709551616 ≤ v + b % 128 * p → clo Q .non S') ∧ (¬ 18446744073709551616 ≤ v + b % 128 * p → clo Q (.tup [.int (v + b % 128 * p), .int ((a : Int) + (i : Int) + 1)]) S') := fun hn => ⟨fun h => by
        rw [if_pos (.inr h)] at he
        rw [he] at g
        exact g, fun h => by
        rw [if_neg (fun z => z.elim hn h)] at he
        rw [he] at g
        exact g⟩
      by_cases hz : b = 0
      · rw [decide_eq_true hz]
        walk_at "ny"
        by_cases hp : 0 < i
        · rw [decide_eq_true (show (a : Int) < (a : Int) + (i : Int) by omega)]
          rw [if_pos (.inl ⟨hz, hp⟩)] at he
          rw [he] at g
          walk_at "ny"
          exact g
        · rw [decide_eq_false (show ¬ (a : Int) < (a : Int) + (i : Int) by omega)]
          walk_at "ny"
          obtain ⟨f1, f2⟩ := fin (fun z => hp z.2)
          by_cases hb : 18446744073709551616 ≤ v + b % 128 * p
          · rw [decide_eq_true hb]
            walk_at "ny"
            exact f1 hb
          · rw [decide_eq_false hb]
            walk_at "ny"
            exact f2 hb
      · rw [decide_eq_false hz]
        walk_at "ny"
        obtain ⟨f1, f2⟩ := fin (fun z => hz z.1)
        by_cases hb : 18446744073709551616 ≤ v + b % 128 * p
        · rw [decide_eq_true hb]
          walk_at "ny"
          exact f1 hb
        · rw [decide_eq_false hb]
          walk_at "ny"
          exact f2 hb
    · rw [decide_eq_false hc]
      walk_at "ny"
      rw [numG_more hc] at he
      exact hN _ _ ⟨_, _, _, _, rfl, rfl, he⟩
  · rintro σ S' ⟨v, p, y1, y2, rfl, rfl, he⟩
    refine ⟨trivial, ?_⟩
    walk_at "nx"
    rw [rangeW_len] at he
    have e : numAt bs a = none := by
      rw [he]
      by_cases h : 10 ≤ bs.length - a
      · rw [Nat.min_eq_left h]
        exact numG_zero
      · rw [Nat.min_eq_right (by omega), List.drop_of_length_le (by omega)]
        exact numG_nil
    rw [e] at g
    exact g
/-! ### part_at -/
def G_part_at : Fw := fun ws S Q _ => ∃ (bs : List Int) (a : Nat), ws = [.tup (bs.map Dt.int), .int a] ∧ a ≤ bs.length ∧ bs.length ≤ 300000 ∧ (∀ b ∈ bs, 0 ≤ b ∧ b ≤ 255) ∧ (match numAt bs a with | none => Q .non S | some (n, c) => (n / 3 = 0 ∨ (n % 3 = 2 ∧ (bs.length : Int) < (a : Int) + (c : Int) + n / 3) → Q .non S) ∧ (¬ (n / 3 = 0 ∨ (n % 3 = 2 ∧ (bs.length : Int) < (a : Int) + (c : Int) + n / 3)) → Q (.tup [.int (n % 3), .int (n / 3), .int ((a : Int) + (c : Int))]) S))
theorem ok_part_at (T : Txt P w K mg base c_NoRow c_BadChange) (D : Dfn K mg "part_at" s_part_at ["change", "at"]) (C_number_at : Cal P w K mg base "number_at" 1 ["row", "at"] 2 G_number_at) : Cal P w K mg base "part_at" 2 ["change", "at"] 2 G_part_at := by
  refine cal_of D sc_part_at G_part_at rfl fun f cdv A outer s H E hr => ?_
  have hu := hr.units
  refine ⟨_, (jss_cons (js_set (je_cal C_number_at (hr.mono (by omega)) takes_def (by rfl) (ja_cons (je_var (pv 0)) (ja_cons (je_var (pv 1)) ja_nil))) (pg_name (i := 2) sc_part_at.nd rfl (by first | exact Or.inl rfl | exact Or.inr rfl))) (jss_cons (js_if (jt_cmp o_is (je_var (pv 2)) je_non (nomark _)) (jss_one (js_ret je_non)) jss_nil) (jss_cons (js_asg (je_var (pv 2)) (jg_tup (n := 2) rfl (jgs_cons (jg_name (pg_name (i := 3) sc_part_at.nd rfl (by first | exact Or.inl rfl | exact Or.inr rfl))) (jgs_cons (jg_name (pg_name (i := 4) sc_part_at.nd rfl (by first | exact Or.inl rfl | exact Or.inr rfl))) jgs_nil)))) (jss_cons (js_par (i := 5) (j := 6) rfl sc_part_at.nd rfl rfl (by decide) rfl rfl (ja_cons (je_op o_mod (je_var (pv 3)) je_int) (ja_cons (je_op o_fdiv (je_var (pv 3)) je_int) ja_nil))) (jss_cons (js_if (jt_w (jw_or (jt_cmp (o_eq hu) (je_var (pv 6)) je_int (nomark _)) (jw_one (jt_w (jw_and (jt_cmp (o_eq hu) (je_var (pv 5)) (je_gi (by rfl) T.g_PUT_IN) (nomark _)) (jw_one (jt_cmp o_gt (je_op o_add (je_var (pv 4)) (je_var (pv 6))) (je_callB (c_len) (by rfl) T.n_len (by decide +kernel) (ja_cons (je_var (pv 0)) ja_nil)) (nomark _)))))))) (jss_one (js_ret je_non)) jss_nil) (jss_one (js_ret (je_tup (ja_cons (je_var (pv 5)) (ja_cons (je_var (pv 6)) (ja_cons (je_var (pv 4)) ja_nil))))))))))), fun ws S Q Ex hl g => ?_⟩
  obtain ⟨bs, a, rfl, ha, hl, hb, g⟩ := g
  have l2 : (bs.map Dt.int).length = bs.length := List.length_map ..
  walk_at "ny"
  refine ⟨bs, a, rfl, ha, hl, hb, ?_⟩
  cases hn : numAt bs a with
  | none =>
    rw [hn] at g
    walk_at "ny"
    exact clo.of g
  | some p =>
    obtain ⟨n, c⟩ := p
    rw [hn] at g
    obtain ⟨g1, g2⟩ := g
    walk_at "ny"
    by_cases m0 : n / 3 = 0
    · rw [decide_eq_true m0]
      walk_at "ny"
      exact clo.of (g1 (.inl m0))
    · rw [decide_eq_false m0]
      walk_at "ny"
      by_cases k2 : n % 3 = 2
      · rw [decide_eq_true k2]
        walk_at "ny"
        by_cases c3 : ((bs.map Dt.int).length : Int) < (a : Int) + (c : Int) + n / 3
        · rw [decide_eq_true c3]
          walk_at "ny"
          exact clo.of (g1 (.inr ⟨k2, by omega⟩))
        · rw [decide_eq_false c3]
          walk_at "ny"
          exact clo.of (g2 (by omega))
      · rw [decide_eq_false k2]
        walk_at "ny"
        exact clo.of (g2 (by omega))
/-! ### changed_or_wrong -/
def G_changed_or_wrong : Fw := fun ws S Q _ => ∃ one ch : List Int, ws = [.tup (one.map Dt.int), .tup (ch.map Dt.int)] ∧ one.length ≤ 300000 ∧ ch.length ≤ 300000 ∧ (∀ b ∈ ch, 0 ≤ b ∧ b ≤ 255) ∧ Q (match ledOf one ch with | .told r => .tup [.tup (r.map Dt.int), .non] | .bad a => .tup [.non, .int a]) S
theorem ok_changed_or_wrong (T : Txt P w K mg base c_NoRow c_BadChange) (D : Dfn K mg "changed_or_wrong" s_changed_or_wrong ["one", "change"]) (C_part_at : Cal P w K mg base "part_at" 2 ["change", "at"] 2 G_part_at) : Cal P w K mg base "changed_or_wrong" 3 ["one", "change"] 2 G_changed_or_wrong := by
  refine cal_of D sc_changed_or_wrong G_changed_or_wrong rfl fun f cdv A outer s H E hr => ?_
  have hu := hr.units
  refine ⟨_, (jss_cons (js_set (je_ref (jl_lst ja_nil)) (pg_name (i := 2) sc_changed_or_wrong.nd rfl (by first | exact Or.inl rfl | exact Or.inr rfl))) (jss_cons (js_set je_int (pg_name (i := 3) sc_changed_or_wrong.nd rfl (by first | exact Or.inl rfl | exact Or.inr rfl))) (jss_cons (js_set je_int (pg_name (i := 4) sc_changed_or_wrong.nd rfl (by first | exact Or.inl rfl | exact Or.inr rfl))) (jss_cons (js_while passes_def (jt_cmp o_lt (je_var (pv 4)) (je_callB (c_len) (by rfl) T.n_len (by decide +kernel) (ja_cons (je_var (pv 1)) ja_nil)) (nomark _)) (jss_cons (js_set (je_cal C_part_at (hr.mono (by omega)) takes_def (by rfl) (ja_cons (je_var (pv 1)) (ja_cons (je_var (pv 4)) ja_nil))) (pg_name (i := 5) sc_changed_or_wrong.nd rfl (by first | exact Or.inl rfl | exact Or.inr rfl))) (jss_cons (js_if (jt_w (jw_or (jt_cmp o_is (je_var (pv 5)) je_non (nomark _)) (jw_one (jt_w (jw_and (jt_cmp (o_ne hu) (je_ix o_ix (je_var (pv 5)) je_int (fun _ _ => rfl)) (je_gi (by rfl) T.g_PUT_IN) (nomark _)) (jw_one (jt_cmp o_gt (je_op o_add (je_var (pv 3)) (je_ix o_ix (je_var (pv 5)) je_int (fun _ _ => rfl))) (je_callB (c_len) (by rfl) T.n_len (by decide +kernel) (ja_cons (je_var (pv 0)) ja_nil)) (nomark _)))))))) (jss_one (js_ret (je_tup (ja_cons je_non (ja_cons (je_var (pv 4)) ja_nil))))) jss_nil) (jss_cons (js_asg (je_var (pv 5)) (jg_tup (n := 3) rfl (jgs_cons (jg_name (pg_name (i := 6) sc_changed_or_wrong.nd rfl (by first | exact Or.inl rfl | exact Or.inr rfl))) (jgs_cons (jg_name (pg_name (i := 7) sc_changed_or_wrong.nd rfl (by first | exact Or.inl rfl | exact Or.inr rfl))) (jgs_cons (jg_name (pg_name (i := 8) sc_changed_or_wrong.nd rfl (by first | exact Or.inl rfl | exact Or.inr rfl))) jgs_nil))))) (jss_cons (js_if (jt_cmp (o_eq hu) (je_var (pv 6)) (je_gi (by rfl) T.g_KEPT) (nomark _)) (jss_one (js_drop (je_meth PySem.F.plainAttrs_list PySem.F.slot_list_extend PySem.F.type_list_extend m_extend (je_var (pv 2)) (ja_cons (je_slice o_slice (je_var (pv 0)) (jo_some (je_var (pv 3))) (jo_some (je_op o_add (je_var (pv 3)) (je_var (pv 7))))) ja_nil)))) jss_nil) (jss_cons (js_if (jt_cmp (o_eq hu) (je_var (pv 6)) (je_gi (by rfl) T.g_PUT_IN) (nomark _)) (jss_cons (js_drop (je_meth PySem.F.plainAttrs_list PySem.F.slot_list_extend PySem.F.type_list_extend m_extend (je_var (pv 2)) (ja_cons (je_slice o_slice (je_var (pv 1)) (jo_some (je_var (pv 8))) (jo_some (je_op o_add (je_var (pv 8)) (je_var (pv 7))))) ja_nil))) (jss_one (js_aug (i := 8) sc_changed_or_wrong.nd rfl (by first | exact Or.inl rfl | exact Or.inr rfl) (je_var (pv 7)) i_add))) (jss_one (js_aug (i := 3) sc_changed_or_wrong.nd rfl (by first | exact Or.inl rfl | exact Or.inr rfl) (je_var (pv 7)) i_add))) (jss_one (js_set (je_var (pv 8)) (pg_name (i := 4) sc_changed_or_wrong.nd rfl (by first | exact Or.inl rfl | exact Or.inr rfl)))))))))) (jss_one (js_ret (je_tup (ja_cons (je_callT c_tuple (by rfl) T.n_tuple (by decide +kernel) (ja_cons (je_var (pv 2)) ja_nil)) (ja_cons je_non ja_nil))))))))), fun ws S Q Ex hl g => ?_⟩
  obtain ⟨one, ch, rfl, hl1, hl2, hb, g⟩ := g
  have l1 : (one.map Dt.int).length = one.length := List.length_map ..
  have l2 : (ch.map Dt.int).length = ch.length := List.length_map ..
  walk_at "ny"
  intro p hp
  have g : ∀ o, clo Q (match ledOf one ch with | .told r => .tup [.tup (r.map Dt.int), .non] | .bad a => .tup [.non, .int a]) (sup S p o) := fun o => clo.sub g (sub_sup hp)
  walk_at "ny"
  refine mWhile_rule (fun m σ S' => ∃ (h a : Nat) (r : List Int) (y5 y6 y7 y8 : Option Dt), S' = sup S p (.lst (r.map Dt.int)) ∧ σ = [some (.tup (one.map Dt.int)), some (.tup (ch.map Dt.int)), some (.ref p), some (.int h), some (.int a), y5, y6, y7, y8] ∧ a ≤ ch.length ∧ ch.length + 1 ≤ m + a ∧ h ≤ one.length ∧ r.length ≤ h + a ∧ ledOf one ch = ledG one ch m h a r) (ch.length + 1) ⟨0, 0, [], none, none, none, none, rfl, rfl, Nat.zero_le _, Nat.le_refl _, Nat.zero_le _, Nat.le_refl _, rfl⟩ ?_
  rintro m σ S' N ⟨h, a, r, y5, y6, y7, y8, rfl, rfl, ha, hma, hh, hr, he⟩ hN
  have lr : (r.map Dt.int).length = r.length := List.length_map ..
  obtain ⟨f, rfl⟩ : ∃ f, m = f + 1 := ⟨m - 1, by omega⟩
  walk_at "ny"
  by_cases e : a = ch.length
  · rw [decide_eq_false (show ¬ (a : Int) < ((ch.map Dt.int).length : Int) by omega)]
    rw [he, ledG_end e] at g
    walk_at "ny"
    rw [lsv_ref sup_same]
    walk_at "ny"
    exact g _
  · rw [decide_eq_true (show (a : Int) < ((ch.map Dt.int).length : Int) by omega)]
    walk_at "ny"
    refine ⟨ch, a, rfl, ha, hl2, hb, ?_⟩
    cases hn : numAt ch a with
    | none =>
      rw [he, ledG_none e hn] at g
      walk_at "ny"
      exact g _
    | some p' =>
      obtain ⟨n, c⟩ := p'
      obtain ⟨n0, n1, c0, c1⟩ := numAt_pos hb hn ha
      rw [ledG_some e hn] at he
      have bad : (n / 3 = 0 ∨ (n % 3 ≠ 2 ∧ (one.length : Int) < (h : Int) + n / 3) ∨ (n % 3 = 2 ∧ (ch.length : Int) < (a : Int) + (c : Int) + n / 3)) → ∀ o, clo Q (.tup [.non, .int a]) (sup S p o) := fun z => by
        rw [if_pos z] at he
        rw [he] at g
        exact g
      refine ⟨fun z => ?_, fun z => ?_⟩
      · walk_at "ny"
        exact bad (z.imp id .inr) _
      · walk_at "ny"
        have em : n / 3 = ((n / 3).toNat : Int) := by omega
        by_cases k2 : n % 3 = 2
        · rw [if_neg (by omega), if_pos k2] at he
          rw [decide_eq_true k2]
          walk_at "ny"
          rw [decide_eq_false (show ¬ n % 3 = 0 by omega)]
          walk_at "ny"
          rw [decide_eq_true k2]
          walk_at "ny"
          refine ⟨ty_lst sup_same, ?_⟩
          walk_at "ny"
          rw [show (a : Int) + (c : Int) = ((a + c : Nat) : Int) by omega, cutW_ints em]
          have lt : ((ch.drop (a + c)).take (n / 3).toNat).length = (n / 3).toNat := by rw [List.length_take, List.length_drop]; omega
          walk_at "ny"
          rw [sup_same]
          walk_at "ny"
          refine ⟨by rw [lr, List.length_map, lt]; show _ ≤ 16777216; omega, ?_⟩
          walk_at "ny"
          rw [sup_sup, ← List.map_append, show ((a + c : Nat) : Int) + n / 3 = ((a + c + (n / 3).toNat : Nat) : Int) by omega]
          refine hN f _ _ (Nat.lt_succ_self f) ⟨h, a + c + (n / 3).toNat, _, _, _, _, _, rfl, rfl, by omega, by omega, hh, by rw [List.length_append, lt]; omega, he⟩
        · rw [decide_eq_false k2]
          walk_at "ny"
          by_cases c2 : ((one.map Dt.int).length : Int) < (h : Int) + n / 3
          · rw [decide_eq_true c2]
            walk_at "ny"
            exact bad (.inr (.inl ⟨k2, by omega⟩)) _
          · rw [if_neg (by omega), if_neg k2] at he
            rw [decide_eq_false c2]
            walk_at "ny"
            by_cases k0 : n % 3 = 0
            · rw [if_pos k0] at he
              rw [decide_eq_true k0]
              walk_at "ny"
              refine ⟨ty_lst sup_same, ?_⟩
              walk_at "ny"
              rw [cutW_ints em]
              have lt : ((one.drop h).take (n / 3).toNat).length = (n / 3).toNat := by rw [List.length_take, List.length_drop]; omega
              walk_at "ny"
              rw [sup_same]
              walk_at "ny"
              refine ⟨by rw [lr, List.length_map, lt]; show _ ≤ 16777216; omega, ?_⟩
              walk_at "ny"
              rw [decide_eq_false k2]
              walk_at "ny"
              rw [sup_sup, ← List.map_append, show (h : Int) + n / 3 = ((h + (n / 3).toNat : Nat) : Int) by omega]
              refine hN f _ _ (Nat.lt_succ_self f) ⟨h + (n / 3).toNat, a + c, _, _, _, _, _, rfl, rfl, by omega, by omega, by omega, by rw [List.length_append, lt]; omega, he⟩
            · rw [if_neg k0] at he
              rw [decide_eq_false k0]
              walk_at "ny"
              rw [decide_eq_false k2]
              walk_at "ny"
              rw [show (h : Int) + n / 3 = ((h + (n / 3).toNat : Nat) : Int) by omega]
              refine hN f _ _ (Nat.lt_succ_self f) ⟨h + (n / 3).toNat, a + c, r, _, _, _, _, rfl, rfl, by omega, by omega, by omega, by omega, he⟩
/-! ### is_change -/
def G_is_change (c_NoRow : Addr) : Fw := fun ws S Q Ex => ∃ w z t, ws = [w, z, t] ∧ pl w = true ∧ pl z = true ∧ pl t = true ∧ (∀ one other : List Int, w = .tup (one.map Dt.int) → z = .tup (other.map Dt.int) → rowW w = true → rowW z = true → Q (.bl (isChg one other t)) S) ∧ ((rowW w && rowW z) = false → Ex ⟨.ref c_NoRow, none⟩ S)
theorem ok_is_change (T : Txt P w K mg base c_NoRow c_BadChange) (D : Dfn K mg "is_change" s_is_change ["one", "other", "thing"]) (C_changed_or_wrong : Cal P w K mg base "changed_or_wrong" 3 ["one", "change"] 2 G_changed_or_wrong) (C_is_row : Cal P w K mg base "is_row" 4 ["thing"] 1 G_is_row) (C_check_row : Cal P w K mg base "check_row" 5 ["thing"] 1 (G_check_row c_NoRow)) : Cal P w K mg base "is_change" 6 ["one", "other", "thing"] 3 (G_is_change c_NoRow) := by
  refine cal_of D sc_is_change (G_is_change c_NoRow) rfl fun f cdv A outer s H E hr => ?_
  have hu := hr.units
  refine ⟨_, (jss_cons (js_drop (je_cal C_check_row (hr.mono (by omega)) takes_def (by rfl) (ja_cons (je_var (pv 0)) ja_nil))) (jss_cons (js_drop (je_cal C_check_row (hr.mono (by omega)) takes_def (by rfl) (ja_cons (je_var (pv 1)) ja_nil))) (jss_one (js_ret (je_and (je_cal C_is_row (hr.mono (by omega)) takes_def (by rfl) (ja_cons (je_var (pv 2)) ja_nil)) (je_one (je_cmp (o_eq hu) (je_cal C_changed_or_wrong (hr.mono (by omega)) takes_def (by rfl) (ja_cons (je_var (pv 0)) (ja_cons (je_var (pv 2)) ja_nil))) (je_tup (ja_cons (je_var (pv 1)) (ja_cons je_non ja_nil))) (nomark _)))))))), fun ws S Q Ex hl g => ?_⟩
  obtain ⟨w, z, t, rfl, kw, kz, kt, g1, g2⟩ := g
  walk_at "ny"
  refine ⟨w, rfl, kw, fun h1 => ?_, fun h1 => clX.of (g2 (by rw [h1]; rfl))⟩
  walk_at "ny"
  refine ⟨z, rfl, kz, fun h2 => ?_, fun h2 => clX.of (g2 (by rw [h1, h2]; rfl))⟩
  obtain ⟨one, rfl, a1, _⟩ := rowW_of h1
  obtain ⟨other, rfl, _, _⟩ := rowW_of h2
  have g := clo.of (Q := Q) (g1 one other rfl rfl h1 h2)
  unfold isChg at g
  walk_at "ny"
  refine ⟨t, rfl, kt, ?_⟩
  cases h3 : rowW t with
  | false =>
    rw [h3] at g
    walk_at "ny"
    exact g
  | true =>
    obtain ⟨ch, rfl, a2, hb⟩ := rowW_of h3
    rw [h3, bytesOf_ints, Bool.true_and] at g
    walk_at "ny"
    refine ⟨one, ch, rfl, a1, a2, hb, ?_⟩
    cases e : ledOf one ch with
    | told r =>
      rw [e] at g
      walk_at "ny"
      refine ⟨fl_pair (fl_ints 58 r) rfl, fl_pair (fl_ints 58 other) rfl, ?_⟩
      rw [eqD_pair, eqD_ints, show eqD .non .non = true from rfl, Bool.and_true]
      exact g
    | bad a =>
      rw [e] at g
      walk_at "ny"
      refine ⟨fl_pair (fl_ints 58 other) rfl, ?_⟩
      show clo Q (.bl (eqD (.tup [.non, .int a]) (.tup [.tup (other.map Dt.int), .non]))) S
      rw [eqD_pair, show eqD .non (.tup (other.map Dt.int)) = false from rfl, Bool.false_and]
      exact g
/-! ### _law_refused -/
def G__law_refused : Fw := fun ws S Q _ => ∃ w z, ws = [w, z] ∧ pl w = true ∧ pl z = true ∧ (rowW w && rowW z) = false ∧ Q (.bl true) S
theorem ok__law_refused (T : Txt P w K mg base c_NoRow c_BadChange) (D : Dfn K mg "_law_refused" s__law_refused ["_law_one", "_law_other"]) (C_is_change : Cal P w K mg base "is_change" 6 ["one", "other", "thing"] 3 (G_is_change c_NoRow)) (C_change : Cal P w K mg base "change" 6 ["one", "other"] 2 (G_change c_NoRow)) : Cal P w K mg base "_law_refused" 7 ["_law_one", "_law_other"] 2 G__law_refused := by
  refine cal_of D sc__law_refused G__law_refused rfl fun f cdv A outer s H E hr => ?_
  have hu := hr.units
  refine ⟨_, (jss_cons (js_set je_int (pg_name (i := 2) sc__law_refused.nd rfl (by first | exact Or.inl rfl | exact Or.inr rfl))) (jss_cons (js_try rfl rfl sc__law_refused.nd takes_def (fun _ _ _ tk2 pa2 => (jss_one (js_drop (je_cal C_change (hr.mono (by omega)) tk2 (by rfl) (ja_cons (je_var (pv 0)) (ja_cons (je_var (pv 1)) ja_nil)))))) (.cons ⟨by rfl, by decide, .inl T.x_NoRow.gC⟩ (fun _ _ _ => (jss_one (js_set (je_op o_add (je_var (pv 2)) je_int) (pg_name (i := 2) sc__law_refused.nd rfl (by first | exact Or.inl rfl | exact Or.inr rfl))))) .nil)) (jss_cons (js_try rfl rfl sc__law_refused.nd takes_def (fun _ _ _ tk1 pa1 => (jss_one (js_drop (je_cal C_is_change (hr.mono (by omega)) tk1 (by rfl) (ja_cons (je_var (pv 0)) (ja_cons (je_var (pv 1)) (ja_cons (je_tup ja_nil) ja_nil))))))) (.cons ⟨by rfl, by decide, .inl T.x_NoRow.gC⟩ (fun _ _ _ => (jss_one (js_set (je_op o_add (je_var (pv 2)) je_int) (pg_name (i := 2) sc__law_refused.nd rfl (by first | exact Or.inl rfl | exact Or.inr rfl))))) .nil)) (jss_one (js_ret (je_cmp (o_eq hu) (je_var (pv 2)) je_int (nomark _))))))), fun ws S Q Ex hl g => ?_⟩
  obtain ⟨w, z, rfl, kw, kz, hr, g⟩ := g
  walk_at "ny"
  refine ⟨w, z, rfl, kw, kz, fun one other e1 e2 h1 h2 => absurd hr (by rw [h1, h2]; decide), fun _ => ?_⟩
  walk_at "ny"
  refine ⟨true, T.m_NoRow_NoRow, fun _ => ?_, fun z => Bool.noConfusion z⟩
  walk_at "ny"
  refine ⟨w, z, _, rfl, kw, kz, rfl, fun one other e1 e2 h1 h2 => absurd hr (by rw [h1, h2]; decide), fun _ => ?_⟩
  walk_at "ny"
  refine ⟨true, T.m_NoRow_NoRow, fun _ => ?_, fun z => Bool.noConfusion z⟩
  walk_at "ny"
  exact clo.of g
/-! ### changed -/
def G_changed (c_NoRow c_BadChange : Addr) : Fw := fun ws S Q Ex => ∃ w z, ws = [w, z] ∧ pl w = true ∧ pl z = true ∧ (∀ one ch : List Int, w = .tup (one.map Dt.int) → z = .tup (ch.map Dt.int) → rowW w = true → rowW z = true → match ledOf one ch with | .told r => Q (.tup (r.map Dt.int)) S | .bad a => Ex ⟨.ref c_BadChange, some (["place"], [.int a])⟩ S) ∧ ((rowW w && rowW z) = false → Ex ⟨.ref c_NoRow, none⟩ S)
theorem ok_changed (T : Txt P w K mg base c_NoRow c_BadChange) (D : Dfn K mg "changed" s_changed ["one", "change"]) (C_changed_or_wrong : Cal P w K mg base "changed_or_wrong" 3 ["one", "change"] 2 G_changed_or_wrong) (C_check_row : Cal P w K mg base "check_row" 5 ["thing"] 1 (G_check_row c_NoRow)) : Cal P w K mg base "changed" 6 ["one", "change"] 2 (G_changed c_NoRow c_BadChange) := by
  refine cal_of D sc_changed (G_changed c_NoRow c_BadChange) rfl fun f cdv A outer s H E hr => ?_
  have hu := hr.units
  refine ⟨_, (jss_cons (js_drop (je_cal C_check_row (hr.mono (by omega)) takes_def (by rfl) (ja_cons (je_var (pv 0)) ja_nil))) (jss_cons (js_drop (je_cal C_check_row (hr.mono (by omega)) takes_def (by rfl) (ja_cons (je_var (pv 1)) ja_nil))) (jss_cons (js_asg (je_cal C_changed_or_wrong (hr.mono (by omega)) takes_def (by rfl) (ja_cons (je_var (pv 0)) (ja_cons (je_var (pv 1)) ja_nil))) (jg_tup (n := 2) rfl (jgs_cons (jg_name (pg_name (i := 2) sc_changed.nd rfl (by first | exact Or.inl rfl | exact Or.inr rfl))) (jgs_cons (jg_name (pg_name (i := 3) sc_changed.nd rfl (by first | exact Or.inl rfl | exact Or.inr rfl))) jgs_nil)))) (jss_cons (js_if (jt_cmp o_isnot (je_var (pv 3)) je_non (nomark _)) (jss_one (js_raise rfl takes_def (jr_exc1 T.x_BadChange (hr.mono (by omega)) (by rfl) (je_var (pv 3))))) jss_nil) (jss_one (js_ret (je_var (pv 2)))))))), fun ws S Q Ex hl g => ?_⟩
  obtain ⟨w, z, rfl, kw, kz, g1, g2⟩ := g
  walk_at "ny"
  refine ⟨w, rfl, kw, fun h1 => ?_, fun h1 => clX.of (g2 (by rw [h1]; rfl))⟩
  walk_at "ny"
  refine ⟨z, rfl, kz, fun h2 => ?_, fun h2 => clX.of (g2 (by rw [h1, h2]; rfl))⟩
  obtain ⟨one, rfl, a1, _⟩ := rowW_of h1
  obtain ⟨ch, rfl, a2, hb⟩ := rowW_of h2
  have g1 := g1 one ch rfl rfl h1 h2
  walk_at "ny"
  refine ⟨one, ch, rfl, a1, a2, hb, ?_⟩
  cases e : ledOf one ch with
  | told r =>
    rw [e] at g1
    walk_at "ny"
    exact clo.of g1
  | bad a =>
    rw [e] at g1
    walk_at "ny"
    exact clX.of g1
/-! ### _law_told -/
def G__law_told : Fw := fun ws S Q _ => ∃ w z, ws = [w, z] ∧ pl w = true ∧ pl z = true ∧ (∀ one ch : List Int, w = .tup (one.map Dt.int) → z = .tup (ch.map Dt.int) → rowW w = true → rowW z = true → Q (ledD (ledOf one ch)) S) ∧ ((rowW w && rowW z) = false → Q (.tup [.str "NoRow"]) S)
theorem ok__law_told (T : Txt P w K mg base c_NoRow c_BadChange) (D : Dfn K mg "_law_told" s__law_told ["_law_one", "_law_thing"]) (C_changed : Cal P w K mg base "changed" 6 ["one", "change"] 2 (G_changed c_NoRow c_BadChange)) : Cal P w K mg base "_law_told" 7 ["_law_one", "_law_thing"] 2 G__law_told := by
  refine cal_of D sc__law_told G__law_told rfl fun f cdv A outer s H E hr => ?_
  have hu := hr.units
  refine ⟨_, (jss_one (js_try rfl rfl sc__law_told.nd takes_def (fun _ _ _ tk1 pa1 => (jss_one (js_ret (je_tup (ja_cons je_str (ja_cons (je_cal C_changed (hr.mono (by omega)) tk1 (by rfl) (ja_cons (je_var (pv 0)) (ja_cons (je_var (pv 1)) ja_nil))) ja_nil)))))) (.cons ⟨by rfl, by decide, .inl T.x_NoRow.gC⟩ (fun _ _ _ => (jss_one (js_ret (je_tup (ja_cons je_str ja_nil))))) (.named (i := 2) ⟨by rfl, by decide, .inl T.x_BadChange.gC⟩ rfl rfl (fun _ _ _ _ _ zc zf => (jss_one (js_ret (je_tup (ja_cons je_str (ja_cons (je_xf T.x_BadChange.fC T.x_BadChange.no zc zf (je_var (pv 2))) ja_nil)))))) .nil)))), fun ws S Q Ex hl g => ?_⟩
  obtain ⟨w, z, rfl, kw, kz, g1, g2⟩ := g
  walk_at "ny"
  refine ⟨w, z, rfl, kw, kz, fun one ch e1 e2 h1 h2 => ?_, fun h => ?_⟩
  · have g := clo.of (Q := Q) (g1 one ch e1 e2 h1 h2)
    cases e : ledOf one ch with
    | told r =>
      rw [e] at g
      walk_at "ny"
      exact g
    | bad a =>
      rw [e] at g
      walk_at "ny"
      refine ⟨false, T.m_BadChange_NoRow, fun z => Bool.noConfusion z, fun _ => ?_⟩
      walk_at "ny"
      refine ⟨true, T.m_BadChange_BadChange, fun _ => ?_, fun z => Bool.noConfusion z⟩
      walk_at "ny"
      refine ⟨_, _, rfl, fun ea dd => ?_⟩
      walk_at "ny"
      refine ⟨_, rfl, ?_⟩
      walk_at "ny"
      exact g
  · walk_at "ny"
    refine ⟨true, T.m_NoRow_NoRow, fun _ => ?_, fun z => Bool.noConfusion z⟩
    walk_at "ny"
    exact clo.of (g2 h)
/-! ### _law_is_within -/
def G__law_is_within : Fw := fun ws S Q _ => ∃ w lo hi, ws = [w, .int lo, .int hi] ∧ kn S w ∧ Q (.bl (inW w lo hi)) S
theorem ok__law_is_within (T : Txt P w K mg base c_NoRow c_BadChange) (D : Dfn K mg "_law_is_within" s__law_is_within ["_law_thing", "_law_least", "_law_most"]) (C__law_is_integer : Cal P w K mg base "_law_is_integer" 1 ["_law_thing"] 1 G__law_is_integer) : Cal P w K mg base "_law_is_within" 2 ["_law_thing", "_law_least", "_law_most"] 3 G__law_is_within := by
  refine cal_of D sc__law_is_within G__law_is_within rfl fun f cdv A outer s H E hr => ?_
  have hu := hr.units
  refine ⟨_, (jss_one (js_ret (je_and (je_cal C__law_is_integer (hr.mono (by omega)) takes_def (by rfl) (ja_cons (je_var (pv 0)) ja_nil)) (je_and (je_cmp o_le (je_var (pv 1)) (je_var (pv 0)) (nomark _)) (je_one (je_cmp o_le (je_var (pv 0)) (je_var (pv 2)) (nomark _))))))), fun ws S Q Ex hl g => ?_⟩
  obtain ⟨w, lo, hi, rfl, kt, g⟩ := g
  walk_at "dn"
  refine ⟨w, rfl, kt, ?_⟩
  have e : clo Q (.bl (inW w lo hi)) S := clo.of g
  cases w with
  | int i => by_cases h : lo ≤ i <;> simpa [isI, inW, h] using e
  | _ => exact e
/-! ### _law_is_row -/
def G__law_is_row : Fw := fun ws S Q _ => ∃ w, ws = [w] ∧ pl w = true ∧ Q (.bl (rowW w)) S
theorem ok__law_is_row (T : Txt P w K mg base c_NoRow c_BadChange) (D : Dfn K mg "_law_is_row" s__law_is_row ["_law_thing"]) (C__law_is_within : Cal P w K mg base "_law_is_within" 2 ["_law_thing", "_law_least", "_law_most"] 3 G__law_is_within) : Cal P w K mg base "_law_is_row" 3 ["_law_thing"] 1 G__law_is_row := by
  refine cal_of D sc__law_is_row G__law_is_row rfl fun f cdv A outer s H E hr => ?_
  have hu := hr.units
  refine ⟨_, (jss_cons (js_if (jt_w (jw_or (jt_not (jt_val (je_callB (c_isi) (by rfl) T.n_isinstance (by decide +kernel) (ja_cons (je_var (pv 0)) (ja_cons (je_bty (T := "tuple") (by rfl) T.n_tuple (by decide +kernel)) ja_nil))))) (jw_one (jt_cmp o_gt (je_callB (c_len) (by rfl) T.n_len (by decide +kernel) (ja_cons (je_var (pv 0)) ja_nil)) je_int (nomark _))))) (jss_one (js_ret je_bl)) jss_nil) (jss_one (js_ret (je_cmp (o_eq hu) (je_callB (c_len) (by rfl) T.n_len (by decide +kernel) (ja_cons (je_frz (jl_comp (own := [("_law_byte", 1)]) rfl sc__law_is_row.nd (ji_seq (je_var (pv 0))) (blkOk_by (N := N__law_is_row) (sc := defScope s__law_is_row) (by decide +kernel)) binds_name (fun _ _ _ _ _ => (pg_name (i := 1) sc__law_is_row.nd rfl (by first | exact Or.inl rfl | exact Or.inr rfl))) (fun _ _ _ _ _ => (jts_one (jt_not (jt_val (je_cal C__law_is_within (hr.mono (by omega)) takes0 (by rfl) (ja_cons (je_var (pv 1)) (ja_cons je_int (ja_cons je_int ja_nil)))))))) (fun _ _ _ _ _ => (je_var (pv 1))))) ja_nil)) je_int (nomark _))))), fun ws S Q Ex hl g => ?_⟩
  obtain ⟨w, rfl, kw, g⟩ := g
  have e : clo Q (.bl (rowW w)) S := clo.of g
  cases w with
  | tup xs =>
    walk_at "nx"
    by_cases h : (300000 : Int) < xs.length
    · rw [decide_eq_true h]
      walk_at "nx"
      have h' : ¬ xs.length ≤ 300000 := by omega
      have e2 : rowW (.tup xs) = false := by rw [rowW_tup, decide_eq_false h', Bool.false_and]
      rw [e2] at e
      exact e
    · rw [decide_eq_false h]
      walk_at "nx"
      have h' : xs.length ≤ 300000 := by omega
      refine comp_filter (fun x => !inW x 0 255) (fun x => x) xs [] (fun x hx => ⟨_, rfl, fun k hk => ?_, fun _ k hk => hk⟩) (by show 0 + xs.length ≤ 16777216; omega) ?_
      · walk_at "nx"
        exact ⟨rfl, x, 0, 255, rfl, kn_pl (pl_tup kw x hx), hk⟩
      · walk_at "nx"
        rw [List.nil_append, List.map_id']
        have e2 : rowW (.tup xs) = decide (((xs.filter fun x => !inW x 0 255).length : Int) = 0) := by
          rw [rowW_tup, decide_eq_true h', Bool.true_and]
          apply Bool.eq_iff_iff.mpr
          rw [decide_eq_true_eq, List.all_eq_true]
          constructor
          · intro q
            rw [List.filter_eq_nil_iff.mpr fun x hx => by rw [q x hx]; decide]
            rfl
          · intro q x hx
            have q2 := List.eq_nil_of_length_eq_zero (show (xs.filter fun x => !inW x 0 255).length = 0 by omega)
            have q3 := List.filter_eq_nil_iff.mp q2 x hx
            simpa using q3
        rw [e2] at e
        exact e
  | _ => first | exact Bool.noConfusion (show false = true from kw) | (walk_at "nx"; exact e)
/-! ### law -/
theorem ok_law {f : Addr} {fd : FuncData} (T : Txt P w K mg base c_NoRow c_BadChange) (F : L2.Fun K "law" "law" s_law f fd) (C__law_told : Cal P w K mg base "_law_told" 7 ["_law_one", "_law_thing"] 2 G__law_told) (C_is_change : Cal P w K mg base "is_change" 6 ["one", "other", "thing"] 3 (G_is_change c_NoRow)) (C__law_refused : Cal P w K mg base "_law_refused" 7 ["_law_one", "_law_other"] 2 G__law_refused) (C__law_pick : Cal P w K mg base "_law_pick" 2 ["_law_hand_here", "_law_things"] 2 G__law_pick) (C__law_same : Cal P w K mg base "_law_same" 5 ["_law_actual", "_law_due"] 2 (G__law_same 4)) (C_changed : Cal P w K mg base "changed" 6 ["one", "change"] 2 (G_changed c_NoRow c_BadChange)) (C__law_led : Cal P w K mg base "_law_led" 2 ["_law_one", "_law_change_row"] 2 G__law_led) (C__law_is_row : Cal P w K mg base "_law_is_row" 3 ["_law_thing"] 1 G__law_is_row) (C_change : Cal P w K mg base "change" 6 ["one", "other"] 2 (G_change c_NoRow)) (C__law_near_row : Cal P w K mg base "_law_near_row" 4 ["_law_hand_here", "_law_one"] 2 G__law_near_row) (C__law_parts : Cal P w K mg base "_law_parts" 4 ["_law_hand_here", "_law_one"] 2 G__law_parts) (C__law_take : Cal P w K mg base "_law_take" 1 ["_law_hand_here", "_law_many"] 2 G__law_take) (C__law_bytes : Cal P w K mg base "_law_bytes" 3 ["_law_hand_here", "_law_most"] 2 G__law_bytes) (C__law_hand : Cal P w K mg base "_law_hand" 1 ["_law_script"] 1 G__law_hand) : FnOk P w K mg base (L2.CX P w) 8 f fd ["_law_script"] (spOf K 1 (lawG 63)) := by
  refine ok_w F sc_law (lawG 63) rfl fun cdv A outer s H E hr => ?_
  have hu := hr.units
  refine ⟨_, (jss_cons (js_set (je_cal C__law_hand (hr.mono (by omega)) takes_def (by rfl) (ja_cons (je_var (pv 0)) ja_nil)) (pg_name (i := 1) sc_law.nd rfl (by first | exact Or.inl rfl | exact Or.inr rfl))) (jss_cons (js_set (je_cal C__law_bytes (hr.mono (by omega)) takes_def (by rfl) (ja_cons (je_var (pv 1)) (ja_cons je_int ja_nil))) (pg_name (i := 2) sc_law.nd rfl (by first | exact Or.inl rfl | exact Or.inr rfl))) (jss_cut (js_if (jt_cmp (o_eq hu) (je_cal C__law_take (hr.mono (by omega)) takes_def (by rfl) (ja_cons (je_var (pv 1)) (ja_cons je_int ja_nil))) je_int (nomark _)) (jss_one (js_set (je_op o_mul (je_op o_add (je_var (pv 2)) (je_tup (ja_cons je_int (ja_cons je_int (ja_cons je_int ja_nil))))) je_int) (pg_name (i := 2) sc_law.nd rfl (by first | exact Or.inl rfl | exact Or.inr rfl)))) jss_nil) (jss_cut (js_for passes_def rfl (ji_rng1 (by rfl) T.n_range (ja_cons je_int ja_nil)) (jg_name (pg_name (i := 3) sc_law.nd rfl (by first | exact Or.inl rfl | exact Or.inr rfl))) (jss_cons (js_set (je_cal C__law_parts (hr.mono (by omega)) takes_def (by rfl) (ja_cons (je_var (pv 1)) (ja_cons (je_var (pv 2)) ja_nil))) (pg_name (i := 5) sc_law.nd rfl (by first | exact Or.inl rfl | exact Or.inr rfl))) (jss_cons (js_set (je_cal C__law_led (hr.mono (by omega)) takes_def (by rfl) (ja_cons (je_var (pv 2)) (ja_cons (je_var (pv 5)) ja_nil))) (pg_name (i := 6) sc_law.nd rfl (by first | exact Or.inl rfl | exact Or.inr rfl))) (jss_cons (js_if (jt_not (jt_val (je_cal C__law_same (hr.mono (by omega)) takes_def (by rfl) (ja_cons (je_cal C__law_told (hr.mono (by omega)) takes_def (by rfl) (ja_cons (je_var (pv 2)) (ja_cons (je_var (pv 5)) ja_nil))) (ja_cons (je_var (pv 6)) ja_nil))))) (jss_one (js_ret je_bl)) jss_nil) (jss_cons (js_set (je_cal C__law_near_row (hr.mono (by omega)) takes_def (by rfl) (ja_cons (je_var (pv 1)) (ja_cons (je_var (pv 2)) ja_nil))) (pg_name (i := 7) sc_law.nd rfl (by first | exact Or.inl rfl | exact Or.inr rfl))) (jss_cons (js_set (je_cal C_change (hr.mono (by omega)) takes_def (by rfl) (ja_cons (je_var (pv 2)) (ja_cons (je_var (pv 7)) ja_nil))) (pg_name (i := 8) sc_law.nd rfl (by first | exact Or.inl rfl | exact Or.inr rfl))) (jss_cons (js_if (jt_w (jw_or (jt_not (jt_val (je_cal C__law_is_row (hr.mono (by omega)) takes_def (by rfl) (ja_cons (je_var (pv 8)) ja_nil)))) (jw_or (jt_cmp o_gt (je_callB (c_len) (by rfl) T.n_len (by decide +kernel) (ja_cons (je_var (pv 8)) ja_nil)) (je_op o_add (je_callB (c_len) (by rfl) T.n_len (by decide +kernel) (ja_cons (je_var (pv 7)) ja_nil)) je_int) (nomark _)) (jw_one (jt_w (jw_and (jt_cmp (o_eq hu) (je_var (pv 2)) (je_var (pv 7)) (nomark _)) (jw_one (jt_cmp o_gt (je_callB (c_len) (by rfl) T.n_len (by decide +kernel) (ja_cons (je_var (pv 8)) ja_nil)) je_int (nomark _))))))))) (jss_one (js_ret je_bl)) jss_nil) (jss_cons (js_if (jt_w (jw_or (jt_not (jt_val (je_cal C__law_same (hr.mono (by omega)) takes_def (by rfl) (ja_cons (je_cal C__law_led (hr.mono (by omega)) takes_def (by rfl) (ja_cons (je_var (pv 2)) (ja_cons (je_var (pv 8)) ja_nil))) (ja_cons (je_tup (ja_cons je_str (ja_cons (je_var (pv 7)) ja_nil))) ja_nil))))) (jw_one (jt_not (jt_val (je_cal C__law_same (hr.mono (by omega)) takes_def (by rfl) (ja_cons (je_cal C_changed (hr.mono (by omega)) takes_def (by rfl) (ja_cons (je_var (pv 2)) (ja_cons (je_var (pv 8)) ja_nil))) (ja_cons (je_var (pv 7)) ja_nil)))))))) (jss_one (js_ret je_bl)) jss_nil) (jss_cons (js_if (jt_cmp o_isnot (je_cal C_is_change (hr.mono (by omega)) takes_def (by rfl) (ja_cons (je_var (pv 2)) (ja_cons (je_var (pv 7)) (ja_cons (je_var (pv 8)) ja_nil)))) je_bl (nomark _)) (jss_one (js_ret je_bl)) jss_nil) (jss_cons (js_if (jt_not (jt_val (je_cal C__law_same (hr.mono (by omega)) takes_def (by rfl) (ja_cons (je_cal C_is_change (hr.mono (by omega)) takes_def (by rfl) (ja_cons (je_var (pv 2)) (ja_cons (je_var (pv 7)) (ja_cons (je_var (pv 5)) ja_nil)))) (ja_cons (je_cmp (o_eq hu) (je_var (pv 6)) (je_tup (ja_cons je_str (ja_cons (je_var (pv 7)) ja_nil))) (nomark _)) ja_nil))))) (jss_one (js_ret je_bl)) jss_nil) (jss_one (js_if (jt_w (jw_and (jt_cmp (o_eq hu) (je_ix o_ix (je_var (pv 6)) je_int (fun _ _ => rfl)) je_str (nomark _)) (jw_one (jt_cmp o_isnot (je_cal C_is_change (hr.mono (by omega)) takes_def (by rfl) (ja_cons (je_var (pv 2)) (ja_cons (je_ix o_ix (je_var (pv 6)) je_int (fun _ _ => rfl)) (ja_cons (je_var (pv 5)) ja_nil)))) je_bl (nomark _))))) (jss_one (js_ret je_bl)) jss_nil)))))))))))) (jss_cons (js_set (je_cal C__law_pick (hr.mono (by omega)) takes_def (by rfl) (ja_cons (je_var (pv 1)) (ja_cons (je_frz (jl_lst (ja_cons (je_frz (jl_callT c_list (by rfl) T.n_list (by decide +kernel) (ja_cons (je_var (pv 2)) ja_nil))) (ja_cons (je_tup (ja_cons je_int ja_nil)) (ja_cons (je_tup (ja_cons je_bl ja_nil)) (ja_cons je_non (ja_cons je_str (ja_cons je_dict0 ja_nil)))))))) ja_nil))) (pg_name (i := 4) sc_law.nd rfl (by first | exact Or.inl rfl | exact Or.inr rfl))) (jss_cons (js_if (jt_w (jw_or (jt_not (jt_val (je_cal C__law_refused (hr.mono (by omega)) takes_def (by rfl) (ja_cons (je_var (pv 4)) (ja_cons (je_var (pv 2)) ja_nil))))) (jw_or (jt_not (jt_val (je_cal C__law_refused (hr.mono (by omega)) takes_def (by rfl) (ja_cons (je_var (pv 2)) (ja_cons (je_var (pv 4)) ja_nil))))) (jw_one (jt_cmp o_isnot (je_cal C_is_change (hr.mono (by omega)) takes_def (by rfl) (ja_cons (je_var (pv 2)) (ja_cons (je_var (pv 2)) (ja_cons (je_var (pv 4)) ja_nil)))) je_bl (nomark _)))))) (jss_one (js_ret je_bl)) jss_nil) (jss_one (js_ret (je_and (je_cmp (o_eq hu) (je_cal C__law_told (hr.mono (by omega)) takes_def (by rfl) (ja_cons (je_var (pv 4)) (ja_cons (je_tup ja_nil) ja_nil))) (je_tup (ja_cons je_str ja_nil)) (nomark _)) (je_one (je_cmp (o_eq hu) (je_cal C__law_told (hr.mono (by omega)) takes_def (by rfl) (ja_cons (je_var (pv 2)) (ja_cons (je_var (pv 4)) ja_nil))) (je_tup (ja_cons je_str ja_nil)) (nomark _)))))))))))), fun ws S Q Ex hl g => ?_⟩
  obtain ⟨ns, rfl, hns, rfl, g⟩ := g
  walk_at "ny"
  refine ⟨ns, rfl, fun h hd hn hh => ?_⟩
  walk_at "ny"
  refine ⟨h, 60, fun _ => none, hd, rfl, rfl, hh, by decide, by decide, fun one hd hl hb hh => ?_⟩
  walk_at "ny"
  refine ⟨fun σ S' => ∃ (one : List Int) (hd : List Dt) (y3 y4 y5 y6 y7 y8 : Option Dt), S' = sup (fun _ => none) h (.lst hd) ∧ σ = [some (.kl (ns.map Dt.int)), some (.ref h), some (.tup (one.map Dt.int)), y3, y4, y5, y6, y7, y8] ∧ HandL hd ∧ one.length ≤ 693 ∧ ∀ b ∈ one, 0 ≤ b ∧ b ≤ 255, ?_, ?_⟩
  · walk_at "ny"
    refine ⟨h, 10, fun _ => none, hd, rfl, rfl, hh, by decide, log_small (by decide), fun t hd t0 t1 hh => ?_⟩
    walk_at "ny"
    by_cases e : t = 0
    · rw [decide_eq_true e]
      walk_at "ny"
      refine ⟨by rw [List.length_map]; show _ + 3 ≤ 16777216; omega, ?_⟩
      walk_at "nx"
      refine ⟨by simp, by decide, by decide, by rw [List.length_append, List.length_map]; show one.length + 3 ≤ 1000; omega, ?_⟩
      have eF : (List.replicate 11 (one.map Dt.int ++ [Dt.int 1, Dt.int 2, Dt.int 3])).flatten = ((List.replicate 11 (one ++ [1, 2, 3])).flatten).map Dt.int := by
        rw [List.map_flatten, List.map_replicate, List.map_append]
        rfl
      refine ⟨(List.replicate 11 (one ++ [1, 2, 3])).flatten, hd, none, none, none, none, none, none, rfl, by rw [← eF]; rfl, hh, ?_, ?_⟩
      · rw [List.length_flatten, List.map_replicate, List.sum_replicate_nat, List.length_append]
        show 11 * (one.length + 3) ≤ 693
        omega
      · intro b hb'
        obtain ⟨l, hl', hbl⟩ := List.mem_flatten.mp hb'
        rw [(List.mem_replicate.mp hl').2, List.mem_append] at hbl
        rcases hbl with hbl | hbl
        · exact hb b hbl
        · simp only [List.mem_cons, List.not_mem_nil, or_false] at hbl
          omega
    · rw [decide_eq_false e]
      walk_at "ny"
      exact ⟨one, hd, _, _, _, _, _, _, rfl, rfl, hh, by omega, hb⟩
  · rintro σ S' ⟨one, hd, y3, y4, y5, y6, y7, y8, rfl, rfl, hh, hl, hb⟩
    have kr := pl_ints one
    have rr : rowW (.tup (one.map Dt.int)) = true := rowW_ints (by omega) hb
    refine ⟨fun σ S' => ∃ (hd : List Dt) (y3 y4 y5 y6 y7 y8 : Option Dt), S' = sup (fun _ => none) h (.lst hd) ∧ σ = [some (.kl (ns.map Dt.int)), some (.ref h), some (.tup (one.map Dt.int)), y3, y4, y5, y6, y7, y8] ∧ HandL hd, ?_, ?_⟩
    · walk_at "ny"
      refine forW_rule (fun i σ S' => ∃ (hd : List Dt) (y3 y4 y5 y6 y7 y8 : Option Dt), S' = sup (fun _ => none) h (.lst hd) ∧ σ = [some (.kl (ns.map Dt.int)), some (.ref h), some (.tup (one.map Dt.int)), y3, y4, y5, y6, y7, y8] ∧ HandL hd) ⟨_, _, _, _, _, _, _, rfl, rfl, hh⟩ ?_ ?_
      · clear hh
        rintro i w σ S' N ew ⟨hd, y3, y4, y5, y6, y7, y8, rfl, rfl, hh⟩ hN
        refine ⟨trivial, ?_⟩
        walk_at "ny"
        refine ⟨h, one, fun _ => none, hd, rfl, rfl, hh, by omega, fun th hd tl tb hh => ?_⟩
        have rt : rowW (.tup (th.map Dt.int)) = true := rowW_ints (by omega) tb
        walk_at "ny"
        refine ⟨one, th, rfl, by omega, by omega, tb, ?_⟩
        walk_at "ny"
        refine ⟨_, _, rfl, kr, pl_ints th, fun o' c' e1 e2 _ _ => ?_, fun z => absurd (show true = false by rw [← z, rr, rt]; rfl) (by decide)⟩
        have e1 := tup_ints_inj e1
        have e2 := tup_ints_inj e2
        subst e1 e2
        walk_at "ny"
        obtain ⟨n1, n2, n3⟩ := led_nice (ledOf one th)
        refine ⟨_, _, rfl, n1, n2, n3, ?_⟩
        rw [sameW_self n2]
        walk_at "ny"
        refine ⟨h, one, fun _ => none, hd, rfl, rfl, hh, by omega, hb, fun ot hd ol ob hh => ?_⟩
        have ro : rowW (.tup (ot.map Dt.int)) = true := rowW_ints (by omega) ob
        walk_at "ny"
        refine ⟨_, _, rfl, kr, pl_ints ot, fun o' c' e1 e2 _ _ => ?_, fun z => absurd (show true = false by rw [← z, rr, ro]; rfl) (by decide)⟩
        have e1 := tup_ints_inj e1
        have e2 := tup_ints_inj e2
        subst e1 e2
        refine ⟨by omega, by omega, fun R hR => ?_⟩
        obtain ⟨rb, rl, rs, rled⟩ := hR
        have rR : rowW (.tup (R.map Dt.int)) = true := rowW_ints (by omega) rb
        have lR : (R.map Dt.int).length = R.length := List.length_map ..
        have lo : (ot.map Dt.int).length = ot.length := List.length_map ..
        walk_at "ny"
        refine ⟨_, rfl, pl_ints R, ?_⟩
        rw [rR]
        walk_at "ny"
        rw [decide_eq_false (show ¬ ((ot.map Dt.int).length : Int) + 11 < ((R.map Dt.int).length : Int) by omega)]
        obtain ⟨ot1, ot2, ot3⟩ := led_nice (.told ot)
        walk_at "ny"
        refine ⟨fl_ints 59 one, fl_ints 59 ot, ?_⟩
        rw [eqD_ints]
        refine br_c (fun eo => ?_) (fun eo => ?_)
        all_goals
          try have rs := rs (by assumption)
          walk_at "go"
          refine ⟨one, R, rfl, by omega, by omega, rb, ?_⟩
          rw [rled]
          walk_at "go"
          refine ⟨_, _, rfl, ot1, ot2, ot3, ?_⟩
          rw [show sameW (ledD (.told ot)) (.tup [.str "told", .tup (ot.map Dt.int)]) = true from sameW_self (w := ledD (.told ot)) ot2]
          walk_at "go"
          refine ⟨_, _, rfl, kr, pl_ints R, fun o' c' e1 e2 _ _ => ?_, fun z => absurd (show true = false by rw [← z, rr, rR]; rfl) (by decide)⟩
          have e1 := tup_ints_inj e1
          have e2 := tup_ints_inj e2
          subst e1 e2
          rw [rled]
          walk_at "go"
          refine ⟨_, _, rfl, pl_ints ot, nice_ints ot, Nat.lt_of_le_of_lt (dep_ints ot) (by decide), ?_⟩
          rw [sameW_self (nice_ints ot)]
          walk_at "go"
          refine ⟨_, _, _, rfl, kr, pl_ints ot, pl_ints R, fun o' c' e1 e2 _ _ => ?_, fun z => absurd (show true = false by rw [← z, rr, ro]; rfl) (by decide)⟩
          have e1 := tup_ints_inj e1
          have e2 := tup_ints_inj e2
          subst e1 e2
          rw [show isChg one ot (.tup (R.map Dt.int)) = true by unfold isChg; rw [rR, bytesOf_ints, rled]; simp]
          walk_at "go"
          refine ⟨_, _, _, rfl, kr, pl_ints ot, pl_ints th, fun o' c' e1 e2 _ _ => ?_, fun z => absurd (show true = false by rw [← z, rr, ro]; rfl) (by decide)⟩
          have e1 := tup_ints_inj e1
          have e2 := tup_ints_inj e2
          subst e1 e2
          walk_at "go"
          refine pyEq_of (led_fl _) (led_fl (.told ot)) ?_
          rw [show eqD (ledD (ledOf one th)) (.tup [.str "told", .tup (ot.map Dt.int)]) = isTold ot (ledOf one th) from led_eq _ _, show isChg one ot (.tup (th.map Dt.int)) = isTold ot (ledOf one th) by unfold isChg isTold; rw [rt, bytesOf_ints, Bool.true_and]]
          walk_at "go"
          refine ⟨_, _, rfl, rfl, rfl, Nat.zero_lt_succ 3, ?_⟩
          rw [sameW_self rfl]
          walk_at "go"
          cases hx : ledOf one th with
          | bad a =>
            walk_at "go"
            exact hN _ _ ⟨_, _, _, _, _, _, _, rfl, rfl, hh⟩
          | told r =>
            walk_at "go"
            obtain ⟨r1, r2⟩ := ledOf_row hx hb tb (by omega) (by omega)
            refine ⟨_, _, _, rfl, kr, pl_ints r, pl_ints th, fun o' c' e1 e2 _ _ => ?_, fun z => absurd (show true = false by rw [← z, rr, rowW_ints (by omega) r2]; rfl) (by decide)⟩
            have e1 := tup_ints_inj e1
            have e2 := tup_ints_inj e2
            subst e1 e2
            rw [show isChg one r (.tup (th.map Dt.int)) = true by unfold isChg; rw [rt, bytesOf_ints, hx]; simp]
            walk_at "go"
            exact hN _ _ ⟨_, _, _, _, _, _, _, rfl, rfl, hh⟩
      · rintro σ S' ⟨hd, y3, y4, y5, y6, y7, y8, rfl, rfl, hh⟩
        refine ⟨trivial, ?_⟩
        walk_at "ny"
        exact ⟨_, _, _, _, _, _, _, rfl, rfl, hh⟩
    · clear hh
      rintro σ S' ⟨hd, y3, y4, y5, y6, y7, y8, rfl, rfl, hh⟩
      walk_at "go"
      refine ⟨h, _, fun _ => none, hd, rfl, rfl, hh, by show 0 < 6; decide, by show 6 < 1000; decide, fun odd hd ho hh => ?_⟩
      have ok : pl odd = true ∧ rowW odd = false := by
        simp only [List.mem_cons, List.not_mem_nil, or_false] at ho
        rcases ho with rfl | rfl | rfl | rfl | rfl | rfl
        · exact ⟨pl_tup_of (ws := one.map Dt.int) (plL_all (pl_ints one)), rfl⟩
        all_goals exact ⟨rfl, rfl⟩
      obtain ⟨kd, rd⟩ := ok
      walk_at "go"
      refine ⟨_, _, rfl, kd, kr, by rw [rd]; rfl, ?_⟩
      walk_at "go"
      refine ⟨_, _, rfl, kr, kd, by rw [rd, Bool.and_false], ?_⟩
      walk_at "go"
      refine ⟨_, _, _, rfl, kr, kr, kd, fun o' c' e1 e2 _ _ => ?_, fun z => absurd (show true = false by rw [← z, rr]; rfl) (by decide)⟩
      rw [show isChg o' c' odd = false by unfold isChg; rw [rd]; rfl]
      walk_at "go"
      refine ⟨_, _, rfl, kd, rfl, fun _ _ _ _ h1 => absurd h1 (by rw [rd]; decide), fun _ => ?_⟩
      walk_at "go"
      refine ⟨by decide +kernel, by decide +kernel, ?_⟩
      rw [show eqD (.tup [.str "NoRow"]) (.tup [.str "NoRow"]) = true by decide +kernel]
      walk_at "go"
      refine ⟨_, _, rfl, kr, kd, fun _ _ _ _ _ h1 => absurd h1 (by rw [rd]; decide), fun _ => ?_⟩
      walk_at "go"
      refine ⟨by decide +kernel, by decide +kernel, ?_⟩
      rw [show eqD (.tup [.str "NoRow"]) (.tup [.str "NoRow"]) = true by decide +kernel]
      exact clo.of (g _)
end
theorem all_mk {P : Program} {w : World} {K : Frg} {mg : Str → Option Value} {h : Heap} {fa : Addr}
    {tk_BYTE : Tok}
    {tk_MOST_BYTES : Tok}
    {tk_FIGURE : Tok}
    {tk_PUT_IN : Tok}
    {tk_KEPT : Tok}
    {tk_LEFT_OUT : Tok}
    {tk_LEAST_KEPT : Tok}
    {tk_MOST_FIGURES : Tok}
    {tk_WHOLE_BOUND : Tok}
    {fI_BadChange N_BadChange : Addr} {nm_BadChange q_BadChange : Str} {bs_BadChange bm_BadChange sub_BadChange : List Value} {sn_BadChange : List Str} {ab_BadChange : Bool} {col_BadChange : Option Bool} {dd_BadChange od_BadChange an_BadChange : Option Addr} {k0_BadChange k1_BadChange k2_BadChange k3_BadChange k5_BadChange : Option Value} {oc_BadChange kV_BadChange dc_BadChange pm_BadChange cd_BadChange ct_BadChange : Value} {sl_BadChange : Array (Option Value)}
    {c_NoRow c_BadChange : Addr}
    {f__law_hand : Addr} {oc__law_hand kV__law_hand dc__law_hand pm__law_hand cd__law_hand ct__law_hand : Value} {od__law_hand an__law_hand : Option Addr} {sl__law_hand : Array (Option Value)}
    {f__law_take : Addr} {oc__law_take kV__law_take dc__law_take pm__law_take cd__law_take ct__law_take : Value} {od__law_take an__law_take : Option Addr} {sl__law_take : Array (Option Value)}
    {f__law_pick : Addr} {oc__law_pick kV__law_pick dc__law_pick pm__law_pick cd__law_pick ct__law_pick : Value} {od__law_pick an__law_pick : Option Addr} {sl__law_pick : Array (Option Value)}
    {f__law_bytes : Addr} {oc__law_bytes kV__law_bytes dc__law_bytes pm__law_bytes cd__law_bytes ct__law_bytes : Value} {od__law_bytes an__law_bytes : Option Addr} {sl__law_bytes : Array (Option Value)}
    {f__law_figures : Addr} {oc__law_figures kV__law_figures dc__law_figures pm__law_figures cd__law_figures ct__law_figures : Value} {od__law_figures an__law_figures : Option Addr} {sl__law_figures : Array (Option Value)}
    {f__law_parts : Addr} {oc__law_parts kV__law_parts dc__law_parts pm__law_parts cd__law_parts ct__law_parts : Value} {od__law_parts an__law_parts : Option Addr} {sl__law_parts : Array (Option Value)}
    {f__law_number_at : Addr} {oc__law_number_at kV__law_number_at dc__law_number_at pm__law_number_at cd__law_number_at ct__law_number_at : Value} {od__law_number_at an__law_number_at : Option Addr} {sl__law_number_at : Array (Option Value)}
    {f__law_led : Addr} {oc__law_led kV__law_led dc__law_led pm__law_led cd__law_led ct__law_led : Value} {od__law_led an__law_led : Option Addr} {sl__law_led : Array (Option Value)}
    {f__law_near_row : Addr} {oc__law_near_row kV__law_near_row dc__law_near_row pm__law_near_row cd__law_near_row ct__law_near_row : Value} {od__law_near_row an__law_near_row : Option Addr} {sl__law_near_row : Array (Option Value)}
    {f_is_integer : Addr} {oc_is_integer kV_is_integer dc_is_integer pm_is_integer cd_is_integer ct_is_integer : Value} {od_is_integer an_is_integer : Option Addr} {sl_is_integer : Array (Option Value)}
    {f_is_within : Addr} {oc_is_within kV_is_within dc_is_within pm_is_within cd_is_within ct_is_within : Value} {od_is_within an_is_within : Option Addr} {sl_is_within : Array (Option Value)}
    {f_is_below : Addr} {oc_is_below kV_is_below dc_is_below pm_is_below cd_is_below ct_is_below : Value} {od_is_below an_is_below : Option Addr} {sl_is_below : Array (Option Value)}
    {f_is_row : Addr} {oc_is_row kV_is_row dc_is_row pm_is_row cd_is_row ct_is_row : Value} {od_is_row an_is_row : Option Addr} {sl_is_row : Array (Option Value)}
    {f_check_row : Addr} {oc_check_row kV_check_row dc_check_row pm_check_row cd_check_row ct_check_row : Value} {od_check_row an_check_row : Option Addr} {sl_check_row : Array (Option Value)}
    {f_common_begin : Addr} {oc_common_begin kV_common_begin dc_common_begin pm_common_begin cd_common_begin ct_common_begin : Value} {od_common_begin an_common_begin : Option Addr} {sl_common_begin : Array (Option Value)}
    {f_common_end : Addr} {oc_common_end kV_common_end dc_common_end pm_common_end cd_common_end ct_common_end : Value} {od_common_end an_common_end : Option Addr} {sl_common_end : Array (Option Value)}
    {f_figures_of : Addr} {oc_figures_of kV_figures_of dc_figures_of pm_figures_of cd_figures_of ct_figures_of : Value} {od_figures_of an_figures_of : Option Addr} {sl_figures_of : Array (Option Value)}
    {f_part_row : Addr} {oc_part_row kV_part_row dc_part_row pm_part_row cd_part_row ct_part_row : Value} {od_part_row an_part_row : Option Addr} {sl_part_row : Array (Option Value)}
    {f_change_of : Addr} {oc_change_of kV_change_of dc_change_of pm_change_of cd_change_of ct_change_of : Value} {od_change_of an_change_of : Option Addr} {sl_change_of : Array (Option Value)}
    {f_change : Addr} {oc_change kV_change dc_change pm_change cd_change ct_change : Value} {od_change an_change : Option Addr} {sl_change : Array (Option Value)}
    {f__law_is_integer : Addr} {oc__law_is_integer kV__law_is_integer dc__law_is_integer pm__law_is_integer cd__law_is_integer ct__law_is_integer : Value} {od__law_is_integer an__law_is_integer : Option Addr} {sl__law_is_integer : Array (Option Value)}
    {f__law_same : Addr} {oc__law_same kV__law_same dc__law_same pm__law_same cd__law_same ct__law_same : Value} {od__law_same an__law_same : Option Addr} {sl__law_same : Array (Option Value)}
    {f_number_at : Addr} {oc_number_at kV_number_at dc_number_at pm_number_at cd_number_at ct_number_at : Value} {od_number_at an_number_at : Option Addr} {sl_number_at : Array (Option Value)}
    {f_part_at : Addr} {oc_part_at kV_part_at dc_part_at pm_part_at cd_part_at ct_part_at : Value} {od_part_at an_part_at : Option Addr} {sl_part_at : Array (Option Value)}
    {f_changed_or_wrong : Addr} {oc_changed_or_wrong kV_changed_or_wrong dc_changed_or_wrong pm_changed_or_wrong cd_changed_or_wrong ct_changed_or_wrong : Value} {od_changed_or_wrong an_changed_or_wrong : Option Addr} {sl_changed_or_wrong : Array (Option Value)}
    {f_is_change : Addr} {oc_is_change kV_is_change dc_is_change pm_is_change cd_is_change ct_is_change : Value} {od_is_change an_is_change : Option Addr} {sl_is_change : Array (Option Value)}
    {f__law_refused : Addr} {oc__law_refused kV__law_refused dc__law_refused pm__law_refused cd__law_refused ct__law_refused : Value} {od__law_refused an__law_refused : Option Addr} {sl__law_refused : Array (Option Value)}
    {f_changed : Addr} {oc_changed kV_changed dc_changed pm_changed cd_changed ct_changed : Value} {od_changed an_changed : Option Addr} {sl_changed : Array (Option Value)}
    {f__law_told : Addr} {oc__law_told kV__law_told dc__law_told pm__law_told cd__law_told ct__law_told : Value} {od__law_told an__law_told : Option Addr} {sl__law_told : Array (Option Value)}
    {f__law_is_within : Addr} {oc__law_is_within kV__law_is_within dc__law_is_within pm__law_is_within cd__law_is_within ct__law_is_within : Value} {od__law_is_within an__law_is_within : Option Addr} {sl__law_is_within : Array (Option Value)}
    {f__law_is_row : Addr} {oc__law_is_row kV__law_is_row dc__law_is_row pm__law_is_row cd__law_is_row ct__law_is_row : Value} {od__law_is_row an__law_is_row : Option Addr} {sl__law_is_row : Array (Option Value)}
    {f_law : Addr} {oc_law kV_law dc_law pm_law cd_law ct_law : Value} {od_law an_law : Option Addr} {sl_law : Array (Option Value)}
    (KX : K.In h) (G : h.Ns mainGlobals mg) (hmg : mg "law" = some (.ref fa))
    (n_list : PySem.W.nsIn K mainGlobals "list" = some none)
    (n_int : PySem.W.nsIn K mainGlobals "int" = some none)
    (n_len : PySem.W.nsIn K mainGlobals "len" = some none)
    (n_tuple : PySem.W.nsIn K mainGlobals "tuple" = some none)
    (n_range : PySem.W.nsIn K mainGlobals "range" = some none)
    (n_max : PySem.W.nsIn K mainGlobals "max" = some none)
    (n_isinstance : PySem.W.nsIn K mainGlobals "isinstance" = some none)
    (n_bool : PySem.W.nsIn K mainGlobals "bool" = some none)
    (n_all : PySem.W.nsIn K mainGlobals "all" = some none)
    (g_BYTE : PySem.W.nsIn K mainGlobals "BYTE" = some (some (.int (256) tk_BYTE)))
    (g_MOST_BYTES : PySem.W.nsIn K mainGlobals "MOST_BYTES" = some (some (.int (300000) tk_MOST_BYTES)))
    (aE_NoRow : PySem.W.nsIn K mainGlobals "NoRow" = some (some (.ref c_NoRow)))
    (xE_NoRow : PySem.W.excIn K c_NoRow [.type "ValueError", .type "Exception", .type "BaseException", .type "object"] "ValueError.__new__" = true)
    (kE_NoRow : PySem.W.keepIn K (.ref c_NoRow) = true)
    (bE_NoRow : PySem.W.subIn K (.ref c_NoRow) (.type "BaseException") = some true)
    (tE_NoRow : PySem.W.typeIn K (.ref c_NoRow) = some (.type "type"))
    (n_min : PySem.W.nsIn K mainGlobals "min" = some none)
    (g_FIGURE : PySem.W.nsIn K mainGlobals "FIGURE" = some (some (.int (128) tk_FIGURE)))
    (g_PUT_IN : PySem.W.nsIn K mainGlobals "PUT_IN" = some (some (.int (2) tk_PUT_IN)))
    (g_KEPT : PySem.W.nsIn K mainGlobals "KEPT" = some (some (.int (0) tk_KEPT)))
    (g_LEFT_OUT : PySem.W.nsIn K mainGlobals "LEFT_OUT" = some (some (.int (1) tk_LEFT_OUT)))
    (g_LEAST_KEPT : PySem.W.nsIn K mainGlobals "LEAST_KEPT" = some (some (.int (8) tk_LEAST_KEPT)))
    (n_zip : PySem.W.nsIn K mainGlobals "zip" = some none)
    (n_str : PySem.W.nsIn K mainGlobals "str" = some none)
    (g_MOST_FIGURES : PySem.W.nsIn K mainGlobals "MOST_FIGURES" = some (some (.int (10) tk_MOST_FIGURES)))
    (g_WHOLE_BOUND : PySem.W.nsIn K mainGlobals "WHOLE_BOUND" = some (some (.int (18446744073709551616) tk_WHOLE_BOUND)))
    (aE_BadChange : PySem.W.nsIn K mainGlobals "BadChange" = some (some (.ref c_BadChange)))
    (xL_BadChange : K.lookup c_BadChange = some (excClassObj nm_BadChange q_BadChange c_BadChange N_BadChange bs_BadChange bm_BadChange true sn_BadChange sub_BadChange ab_BadChange col_BadChange dd_BadChange k0_BadChange k1_BadChange k2_BadChange k3_BadChange k5_BadChange "ValueError.__new__"))
    (bR_BadChange : PySem.HandSPX.refsVE bm_BadChange = true)
    (sa_BadChange : PySem.W.findIn K (.ref c_BadChange) "__setattr__" = some (some (.builtin "object.__setattr__")))
    (ga_BadChange : PySem.W.findIn K (.ref c_BadChange) "__getattribute__" = some (some (.builtin "BaseException.__getattribute__")))
    (gg_BadChange : PySem.W.findIn K (.ref c_BadChange) "__getattr__" = some none)
    (no_BadChange : PySem.W.findIn K (.ref c_BadChange) "place" = some none)
    (iC_BadChange : PySem.W.findIn K (.ref c_BadChange) "__init__" = some (some (.ref fI_BadChange)))
    (tI_BadChange : PySem.W.typeIn K (.ref fI_BadChange) = some (.type "function"))
    (lI_BadChange : K.lookup fI_BadChange = some ⟨oc_BadChange, od_BadChange, .func (PySem.W.fnOf "__init__" "BadChange.__init__" (defArgs i_BadChange) (defBody i_BadChange) (defScope i_BadChange) .none kV_BadChange dc_BadChange pm_BadChange an_BadChange cd_BadChange ct_BadChange), sl_BadChange⟩)
    (cI_BadChange : PySem.W.codeIn K cd_BadChange "BadChange.__init__" = true)
    (kI_BadChange : PySem.W.keepIn K (.ref fI_BadChange) = true)
    (kE_BadChange : PySem.W.keepIn K (.ref c_BadChange) = true)
    (bE_BadChange : PySem.W.subIn K (.ref c_BadChange) (.type "BaseException") = some true)
    (tE_BadChange : PySem.W.typeIn K (.ref c_BadChange) = some (.type "type"))
    (hE_BadChange : PySem.W.hasDictIn K c_BadChange = true)
    (m_NoRow_NoRow : PySem.W.exmOne K (.ref c_NoRow) (.ref c_NoRow) = some true)
    (m_BadChange_NoRow : PySem.W.exmOne K (.ref c_BadChange) (.ref c_NoRow) = some false)
    (m_NoRow_BadChange : PySem.W.exmOne K (.ref c_NoRow) (.ref c_BadChange) = some false)
    (m_BadChange_BadChange : PySem.W.exmOne K (.ref c_BadChange) (.ref c_BadChange) = some true)
    (a__law_hand : PySem.W.nsIn K mainGlobals "_law_hand" = some (some (.ref f__law_hand)))
    (l__law_hand : K.lookup f__law_hand = some ⟨oc__law_hand, od__law_hand, .func (PySem.W.fnOf "_law_hand" "_law_hand" (defArgs s__law_hand) (defBody s__law_hand) (defScope s__law_hand) .none kV__law_hand dc__law_hand pm__law_hand an__law_hand cd__law_hand ct__law_hand), sl__law_hand⟩)
    (c__law_hand_ : PySem.W.codeIn K cd__law_hand "_law_hand" = true)
    (k__law_hand : PySem.W.keepIn K (.ref f__law_hand) = true)
    (a__law_take : PySem.W.nsIn K mainGlobals "_law_take" = some (some (.ref f__law_take)))
    (l__law_take : K.lookup f__law_take = some ⟨oc__law_take, od__law_take, .func (PySem.W.fnOf "_law_take" "_law_take" (defArgs s__law_take) (defBody s__law_take) (defScope s__law_take) .none kV__law_take dc__law_take pm__law_take an__law_take cd__law_take ct__law_take), sl__law_take⟩)
    (c__law_take_ : PySem.W.codeIn K cd__law_take "_law_take" = true)
    (k__law_take : PySem.W.keepIn K (.ref f__law_take) = true)
    (a__law_pick : PySem.W.nsIn K mainGlobals "_law_pick" = some (some (.ref f__law_pick)))
    (l__law_pick : K.lookup f__law_pick = some ⟨oc__law_pick, od__law_pick, .func (PySem.W.fnOf "_law_pick" "_law_pick" (defArgs s__law_pick) (defBody s__law_pick) (defScope s__law_pick) .none kV__law_pick dc__law_pick pm__law_pick an__law_pick cd__law_pick ct__law_pick), sl__law_pick⟩)
    (c__law_pick_ : PySem.W.codeIn K cd__law_pick "_law_pick" = true)
    (k__law_pick : PySem.W.keepIn K (.ref f__law_pick) = true)
    (a__law_bytes : PySem.W.nsIn K mainGlobals "_law_bytes" = some (some (.ref f__law_bytes)))
    (l__law_bytes : K.lookup f__law_bytes = some ⟨oc__law_bytes, od__law_bytes, .func (PySem.W.fnOf "_law_bytes" "_law_bytes" (defArgs s__law_bytes) (defBody s__law_bytes) (defScope s__law_bytes) .none kV__law_bytes dc__law_bytes pm__law_bytes an__law_bytes cd__law_bytes ct__law_bytes), sl__law_bytes⟩)
    (c__law_bytes_ : PySem.W.codeIn K cd__law_bytes "_law_bytes" = true)
    (k__law_bytes : PySem.W.keepIn K (.ref f__law_bytes) = true)
    (a__law_figures : PySem.W.nsIn K mainGlobals "_law_figures" = some (some (.ref f__law_figures)))
    (l__law_figures : K.lookup f__law_figures = some ⟨oc__law_figures, od__law_figures, .func (PySem.W.fnOf "_law_figures" "_law_figures" (defArgs s__law_figures) (defBody s__law_figures) (defScope s__law_figures) .none kV__law_figures dc__law_figures pm__law_figures an__law_figures cd__law_figures ct__law_figures), sl__law_figures⟩)
    (c__law_figures_ : PySem.W.codeIn K cd__law_figures "_law_figures" = true)
    (k__law_figures : PySem.W.keepIn K (.ref f__law_figures) = true)
    (a__law_parts : PySem.W.nsIn K mainGlobals "_law_parts" = some (some (.ref f__law_parts)))
    (l__law_parts : K.lookup f__law_parts = some ⟨oc__law_parts, od__law_parts, .func (PySem.W.fnOf "_law_parts" "_law_parts" (defArgs s__law_parts) (defBody s__law_parts) (defScope s__law_parts) .none kV__law_parts dc__law_parts pm__law_parts an__law_parts cd__law_parts ct__law_parts), sl__law_parts⟩)
    (c__law_parts_ : PySem.W.codeIn K cd__law_parts "_law_parts" = true)
    (k__law_parts : PySem.W.keepIn K (.ref f__law_parts) = true)
    (a__law_number_at : PySem.W.nsIn K mainGlobals "_law_number_at" = some (some (.ref f__law_number_at)))
    (l__law_number_at : K.lookup f__law_number_at = some ⟨oc__law_number_at, od__law_number_at, .func (PySem.W.fnOf "_law_number_at" "_law_number_at" (defArgs s__law_number_at) (defBody s__law_number_at) (defScope s__law_number_at) .none kV__law_number_at dc__law_number_at pm__law_number_at an__law_number_at cd__law_number_at ct__law_number_at), sl__law_number_at⟩)
    (c__law_number_at_ : PySem.W.codeIn K cd__law_number_at "_law_number_at" = true)
    (k__law_number_at : PySem.W.keepIn K (.ref f__law_number_at) = true)
    (a__law_led : PySem.W.nsIn K mainGlobals "_law_led" = some (some (.ref f__law_led)))
    (l__law_led : K.lookup f__law_led = some ⟨oc__law_led, od__law_led, .func (PySem.W.fnOf "_law_led" "_law_led" (defArgs s__law_led) (defBody s__law_led) (defScope s__law_led) .none kV__law_led dc__law_led pm__law_led an__law_led cd__law_led ct__law_led), sl__law_led⟩)
    (c__law_led_ : PySem.W.codeIn K cd__law_led "_law_led" = true)
    (k__law_led : PySem.W.keepIn K (.ref f__law_led) = true)
    (a__law_near_row : PySem.W.nsIn K mainGlobals "_law_near_row" = some (some (.ref f__law_near_row)))
    (l__law_near_row : K.lookup f__law_near_row = some ⟨oc__law_near_row, od__law_near_row, .func (PySem.W.fnOf "_law_near_row" "_law_near_row" (defArgs s__law_near_row) (defBody s__law_near_row) (defScope s__law_near_row) .none kV__law_near_row dc__law_near_row pm__law_near_row an__law_near_row cd__law_near_row ct__law_near_row), sl__law_near_row⟩)
    (c__law_near_row_ : PySem.W.codeIn K cd__law_near_row "_law_near_row" = true)
    (k__law_near_row : PySem.W.keepIn K (.ref f__law_near_row) = true)
    (a_is_integer : PySem.W.nsIn K mainGlobals "is_integer" = some (some (.ref f_is_integer)))
    (l_is_integer : K.lookup f_is_integer = some ⟨oc_is_integer, od_is_integer, .func (PySem.W.fnOf "is_integer" "is_integer" (defArgs s_is_integer) (defBody s_is_integer) (defScope s_is_integer) .none kV_is_integer dc_is_integer pm_is_integer an_is_integer cd_is_integer ct_is_integer), sl_is_integer⟩)
    (c_is_integer_ : PySem.W.codeIn K cd_is_integer "is_integer" = true)
    (k_is_integer : PySem.W.keepIn K (.ref f_is_integer) = true)
    (a_is_within : PySem.W.nsIn K mainGlobals "is_within" = some (some (.ref f_is_within)))
    (l_is_within : K.lookup f_is_within = some ⟨oc_is_within, od_is_within, .func (PySem.W.fnOf "is_within" "is_within" (defArgs s_is_within) (defBody s_is_within) (defScope s_is_within) .none kV_is_within dc_is_within pm_is_within an_is_within cd_is_within ct_is_within), sl_is_within⟩)
    (c_is_within_ : PySem.W.codeIn K cd_is_within "is_within" = true)
    (k_is_within : PySem.W.keepIn K (.ref f_is_within) = true)
    (a_is_below : PySem.W.nsIn K mainGlobals "is_below" = some (some (.ref f_is_below)))
    (l_is_below : K.lookup f_is_below = some ⟨oc_is_below, od_is_below, .func (PySem.W.fnOf "is_below" "is_below" (defArgs s_is_below) (defBody s_is_below) (defScope s_is_below) .none kV_is_below dc_is_below pm_is_below an_is_below cd_is_below ct_is_below), sl_is_below⟩)
    (c_is_below_ : PySem.W.codeIn K cd_is_below "is_below" = true)
    (k_is_below : PySem.W.keepIn K (.ref f_is_below) = true)
    (a_is_row : PySem.W.nsIn K mainGlobals "is_row" = some (some (.ref f_is_row)))
    (l_is_row : K.lookup f_is_row = some ⟨oc_is_row, od_is_row, .func (PySem.W.fnOf "is_row" "is_row" (defArgs s_is_row) (defBody s_is_row) (defScope s_is_row) .none kV_is_row dc_is_row pm_is_row an_is_row cd_is_row ct_is_row), sl_is_row⟩)
    (c_is_row_ : PySem.W.codeIn K cd_is_row "is_row" = true)
    (k_is_row : PySem.W.keepIn K (.ref f_is_row) = true)
    (a_check_row : PySem.W.nsIn K mainGlobals "check_row" = some (some (.ref f_check_row)))
    (l_check_row : K.lookup f_check_row = some ⟨oc_check_row, od_check_row, .func (PySem.W.fnOf "check_row" "check_row" (defArgs s_check_row) (defBody s_check_row) (defScope s_check_row) .none kV_check_row dc_check_row pm_check_row an_check_row cd_check_row ct_check_row), sl_check_row⟩)
    (c_check_row_ : PySem.W.codeIn K cd_check_row "check_row" = true)
    (k_check_row : PySem.W.keepIn K (.ref f_check_row) = true)
    (a_common_begin : PySem.W.nsIn K mainGlobals "common_begin" = some (some (.ref f_common_begin)))
    (l_common_begin : K.lookup f_common_begin = some ⟨oc_common_begin, od_common_begin, .func (PySem.W.fnOf "common_begin" "common_begin" (defArgs s_common_begin) (defBody s_common_begin) (defScope s_common_begin) .none kV_common_begin dc_common_begin pm_common_begin an_common_begin cd_common_begin ct_common_begin), sl_common_begin⟩)
    (c_common_begin_ : PySem.W.codeIn K cd_common_begin "common_begin" = true)
    (k_common_begin : PySem.W.keepIn K (.ref f_common_begin) = true)
    (a_common_end : PySem.W.nsIn K mainGlobals "common_end" = some (some (.ref f_common_end)))
    (l_common_end : K.lookup f_common_end = some ⟨oc_common_end, od_common_end, .func (PySem.W.fnOf "common_end" "common_end" (defArgs s_common_end) (defBody s_common_end) (defScope s_common_end) .none kV_common_end dc_common_end pm_common_end an_common_end cd_common_end ct_common_end), sl_common_end⟩)
    (c_common_end_ : PySem.W.codeIn K cd_common_end "common_end" = true)
    (k_common_end : PySem.W.keepIn K (.ref f_common_end) = true)
    (a_figures_of : PySem.W.nsIn K mainGlobals "figures_of" = some (some (.ref f_figures_of)))
    (l_figures_of : K.lookup f_figures_of = some ⟨oc_figures_of, od_figures_of, .func (PySem.W.fnOf "figures_of" "figures_of" (defArgs s_figures_of) (defBody s_figures_of) (defScope s_figures_of) .none kV_figures_of dc_figures_of pm_figures_of an_figures_of cd_figures_of ct_figures_of), sl_figures_of⟩)
    (c_figures_of_ : PySem.W.codeIn K cd_figures_of "figures_of" = true)
    (k_figures_of : PySem.W.keepIn K (.ref f_figures_of) = true)
    (a_part_row : PySem.W.nsIn K mainGlobals "part_row" = some (some (.ref f_part_row)))
    (l_part_row : K.lookup f_part_row = some ⟨oc_part_row, od_part_row, .func (PySem.W.fnOf "part_row" "part_row" (defArgs s_part_row) (defBody s_part_row) (defScope s_part_row) .none kV_part_row dc_part_row pm_part_row an_part_row cd_part_row ct_part_row), sl_part_row⟩)
    (c_part_row_ : PySem.W.codeIn K cd_part_row "part_row" = true)
    (k_part_row : PySem.W.keepIn K (.ref f_part_row) = true)
    (a_change_of : PySem.W.nsIn K mainGlobals "change_of" = some (some (.ref f_change_of)))
    (l_change_of : K.lookup f_change_of = some ⟨oc_change_of, od_change_of, .func (PySem.W.fnOf "change_of" "change_of" (defArgs s_change_of) (defBody s_change_of) (defScope s_change_of) .none kV_change_of dc_change_of pm_change_of an_change_of cd_change_of ct_change_of), sl_change_of⟩)
    (c_change_of_ : PySem.W.codeIn K cd_change_of "change_of" = true)
    (k_change_of : PySem.W.keepIn K (.ref f_change_of) = true)
    (a_change : PySem.W.nsIn K mainGlobals "change" = some (some (.ref f_change)))
    (l_change : K.lookup f_change = some ⟨oc_change, od_change, .func (PySem.W.fnOf "change" "change" (defArgs s_change) (defBody s_change) (defScope s_change) .none kV_change dc_change pm_change an_change cd_change ct_change), sl_change⟩)
    (c_change_ : PySem.W.codeIn K cd_change "change" = true)
    (k_change : PySem.W.keepIn K (.ref f_change) = true)
    (a__law_is_integer : PySem.W.nsIn K mainGlobals "_law_is_integer" = some (some (.ref f__law_is_integer)))
    (l__law_is_integer : K.lookup f__law_is_integer = some ⟨oc__law_is_integer, od__law_is_integer, .func (PySem.W.fnOf "_law_is_integer" "_law_is_integer" (defArgs s__law_is_integer) (defBody s__law_is_integer) (defScope s__law_is_integer) .none kV__law_is_integer dc__law_is_integer pm__law_is_integer an__law_is_integer cd__law_is_integer ct__law_is_integer), sl__law_is_integer⟩)
    (c__law_is_integer_ : PySem.W.codeIn K cd__law_is_integer "_law_is_integer" = true)
    (k__law_is_integer : PySem.W.keepIn K (.ref f__law_is_integer) = true)
    (a__law_same : PySem.W.nsIn K mainGlobals "_law_same" = some (some (.ref f__law_same)))
    (l__law_same : K.lookup f__law_same = some ⟨oc__law_same, od__law_same, .func (PySem.W.fnOf "_law_same" "_law_same" (defArgs s__law_same) (defBody s__law_same) (defScope s__law_same) .none kV__law_same dc__law_same pm__law_same an__law_same cd__law_same ct__law_same), sl__law_same⟩)
    (c__law_same_ : PySem.W.codeIn K cd__law_same "_law_same" = true)
    (k__law_same : PySem.W.keepIn K (.ref f__law_same) = true)
    (a_number_at : PySem.W.nsIn K mainGlobals "number_at" = some (some (.ref f_number_at)))
    (l_number_at : K.lookup f_number_at = some ⟨oc_number_at, od_number_at, .func (PySem.W.fnOf "number_at" "number_at" (defArgs s_number_at) (defBody s_number_at) (defScope s_number_at) .none kV_number_at dc_number_at pm_number_at an_number_at cd_number_at ct_number_at), sl_number_at⟩)
    (c_number_at_ : PySem.W.codeIn K cd_number_at "number_at" = true)
    (k_number_at : PySem.W.keepIn K (.ref f_number_at) = true)
    (a_part_at : PySem.W.nsIn K mainGlobals "part_at" = some (some (.ref f_part_at)))
    (l_part_at : K.lookup f_part_at = some ⟨oc_part_at, od_part_at, .func (PySem.W.fnOf "part_at" "part_at" (defArgs s_part_at) (defBody s_part_at) (defScope s_part_at) .none kV_part_at dc_part_at pm_part_at an_part_at cd_part_at ct_part_at), sl_part_at⟩)
    (c_part_at_ : PySem.W.codeIn K cd_part_at "part_at" = true)
    (k_part_at : PySem.W.keepIn K (.ref f_part_at) = true)
    (a_changed_or_wrong : PySem.W.nsIn K mainGlobals "changed_or_wrong" = some (some (.ref f_changed_or_wrong)))
    (l_changed_or_wrong : K.lookup f_changed_or_wrong = some ⟨oc_changed_or_wrong, od_changed_or_wrong, .func (PySem.W.fnOf "changed_or_wrong" "changed_or_wrong" (defArgs s_changed_or_wrong) (defBody s_changed_or_wrong) (defScope s_changed_or_wrong) .none kV_changed_or_wrong dc_changed_or_wrong pm_changed_or_wrong an_changed_or_wrong cd_changed_or_wrong ct_changed_or_wrong), sl_changed_or_wrong⟩)
    (c_changed_or_wrong_ : PySem.W.codeIn K cd_changed_or_wrong "changed_or_wrong" = true)
    (k_changed_or_wrong : PySem.W.keepIn K (.ref f_changed_or_wrong) = true)
    (a_is_change : PySem.W.nsIn K mainGlobals "is_change" = some (some (.ref f_is_change)))
    (l_is_change : K.lookup f_is_change = some ⟨oc_is_change, od_is_change, .func (PySem.W.fnOf "is_change" "is_change" (defArgs s_is_change) (defBody s_is_change) (defScope s_is_change) .none kV_is_change dc_is_change pm_is_change an_is_change cd_is_change ct_is_change), sl_is_change⟩)
    (c_is_change_ : PySem.W.codeIn K cd_is_change "is_change" = true)
    (k_is_change : PySem.W.keepIn K (.ref f_is_change) = true)
    (a__law_refused : PySem.W.nsIn K mainGlobals "_law_refused" = some (some (.ref f__law_refused)))
    (l__law_refused : K.lookup f__law_refused = some ⟨oc__law_refused, od__law_refused, .func (PySem.W.fnOf "_law_refused" "_law_refused" (defArgs s__law_refused) (defBody s__law_refused) (defScope s__law_refused) .none kV__law_refused dc__law_refused pm__law_refused an__law_refused cd__law_refused ct__law_refused), sl__law_refused⟩)
    (c__law_refused_ : PySem.W.codeIn K cd__law_refused "_law_refused" = true)
    (k__law_refused : PySem.W.keepIn K (.ref f__law_refused) = true)
    (a_changed : PySem.W.nsIn K mainGlobals "changed" = some (some (.ref f_changed)))
    (l_changed : K.lookup f_changed = some ⟨oc_changed, od_changed, .func (PySem.W.fnOf "changed" "changed" (defArgs s_changed) (defBody s_changed) (defScope s_changed) .none kV_changed dc_changed pm_changed an_changed cd_changed ct_changed), sl_changed⟩)
    (c_changed_ : PySem.W.codeIn K cd_changed "changed" = true)
    (k_changed : PySem.W.keepIn K (.ref f_changed) = true)
    (a__law_told : PySem.W.nsIn K mainGlobals "_law_told" = some (some (.ref f__law_told)))
    (l__law_told : K.lookup f__law_told = some ⟨oc__law_told, od__law_told, .func (PySem.W.fnOf "_law_told" "_law_told" (defArgs s__law_told) (defBody s__law_told) (defScope s__law_told) .none kV__law_told dc__law_told pm__law_told an__law_told cd__law_told ct__law_told), sl__law_told⟩)
    (c__law_told_ : PySem.W.codeIn K cd__law_told "_law_told" = true)
    (k__law_told : PySem.W.keepIn K (.ref f__law_told) = true)
    (a__law_is_within : PySem.W.nsIn K mainGlobals "_law_is_within" = some (some (.ref f__law_is_within)))
    (l__law_is_within : K.lookup f__law_is_within = some ⟨oc__law_is_within, od__law_is_within, .func (PySem.W.fnOf "_law_is_within" "_law_is_within" (defArgs s__law_is_within) (defBody s__law_is_within) (defScope s__law_is_within) .none kV__law_is_within dc__law_is_within pm__law_is_within an__law_is_within cd__law_is_within ct__law_is_within), sl__law_is_within⟩)
    (c__law_is_within_ : PySem.W.codeIn K cd__law_is_within "_law_is_within" = true)
    (k__law_is_within : PySem.W.keepIn K (.ref f__law_is_within) = true)
    (a__law_is_row : PySem.W.nsIn K mainGlobals "_law_is_row" = some (some (.ref f__law_is_row)))
    (l__law_is_row : K.lookup f__law_is_row = some ⟨oc__law_is_row, od__law_is_row, .func (PySem.W.fnOf "_law_is_row" "_law_is_row" (defArgs s__law_is_row) (defBody s__law_is_row) (defScope s__law_is_row) .none kV__law_is_row dc__law_is_row pm__law_is_row an__law_is_row cd__law_is_row ct__law_is_row), sl__law_is_row⟩)
    (c__law_is_row_ : PySem.W.codeIn K cd__law_is_row "_law_is_row" = true)
    (k__law_is_row : PySem.W.keepIn K (.ref f__law_is_row) = true)
    (a_law : PySem.W.nsIn K mainGlobals "law" = some (some (.ref f_law)))
    (l_law : K.lookup f_law = some ⟨oc_law, od_law, .func (PySem.W.fnOf "law" "law" (defArgs s_law) (defBody s_law) (defScope s_law) .none kV_law dc_law pm_law an_law cd_law ct_law), sl_law⟩)
    (c_law_ : PySem.W.codeIn K cd_law "law" = true)
    (k_law : PySem.W.keepIn K (.ref f_law) = true)
    : ∃ fd : FuncData, (∀ (s : Shared) (u : Value), BindsTo s fd ⟨[u], []⟩ [("_law_script", u)]) ∧ ∀ base : Heap, K.In base → base.Ns mainGlobals mg → FnOk P w K mg base (L2.CX P w) 8 fa fd ["_law_script"] (spOf K 1 (lawG 63)) := by
  have e := hmg.symm.trans (PySem.W.mg_of KX G a_law)
  cases e
  have D__law_hand : Dfn K mg "_law_hand" s__law_hand ["_law_script"] := dfn_mk KX G a__law_hand l__law_hand c__law_hand_ k__law_hand fun _ _ _ _ _ _ us hl => match us, hl with | [_], _ => rfl
  have D__law_take : Dfn K mg "_law_take" s__law_take ["_law_hand_here", "_law_many"] := dfn_mk KX G a__law_take l__law_take c__law_take_ k__law_take fun _ _ _ _ _ _ us hl => match us, hl with | [_, _], _ => rfl
  have D__law_pick : Dfn K mg "_law_pick" s__law_pick ["_law_hand_here", "_law_things"] := dfn_mk KX G a__law_pick l__law_pick c__law_pick_ k__law_pick fun _ _ _ _ _ _ us hl => match us, hl with | [_, _], _ => rfl
  have D__law_bytes : Dfn K mg "_law_bytes" s__law_bytes ["_law_hand_here", "_law_most"] := dfn_mk KX G a__law_bytes l__law_bytes c__law_bytes_ k__law_bytes fun _ _ _ _ _ _ us hl => match us, hl with | [_, _], _ => rfl
  have D__law_figures : Dfn K mg "_law_figures" s__law_figures ["_law_number"] := dfn_mk KX G a__law_figures l__law_figures c__law_figures_ k__law_figures fun _ _ _ _ _ _ us hl => match us, hl with | [_], _ => rfl
  have D__law_parts : Dfn K mg "_law_parts" s__law_parts ["_law_hand_here", "_law_one"] := dfn_mk KX G a__law_parts l__law_parts c__law_parts_ k__law_parts fun _ _ _ _ _ _ us hl => match us, hl with | [_, _], _ => rfl
  have D__law_number_at : Dfn K mg "_law_number_at" s__law_number_at ["_law_row", "_law_at"] := dfn_mk KX G a__law_number_at l__law_number_at c__law_number_at_ k__law_number_at fun _ _ _ _ _ _ us hl => match us, hl with | [_, _], _ => rfl
  have D__law_led : Dfn K mg "_law_led" s__law_led ["_law_one", "_law_change_row"] := dfn_mk KX G a__law_led l__law_led c__law_led_ k__law_led fun _ _ _ _ _ _ us hl => match us, hl with | [_, _], _ => rfl
  have D__law_near_row : Dfn K mg "_law_near_row" s__law_near_row ["_law_hand_here", "_law_one"] := dfn_mk KX G a__law_near_row l__law_near_row c__law_near_row_ k__law_near_row fun _ _ _ _ _ _ us hl => match us, hl with | [_, _], _ => rfl
  have D_is_integer : Dfn K mg "is_integer" s_is_integer ["thing"] := dfn_mk KX G a_is_integer l_is_integer c_is_integer_ k_is_integer fun _ _ _ _ _ _ us hl => match us, hl with | [_], _ => rfl
  have D_is_within : Dfn K mg "is_within" s_is_within ["thing", "least", "most"] := dfn_mk KX G a_is_within l_is_within c_is_within_ k_is_within fun _ _ _ _ _ _ us hl => match us, hl with | [_, _, _], _ => rfl
  have D_is_below : Dfn K mg "is_below" s_is_below ["thing", "many"] := dfn_mk KX G a_is_below l_is_below c_is_below_ k_is_below fun _ _ _ _ _ _ us hl => match us, hl with | [_, _], _ => rfl
  have D_is_row : Dfn K mg "is_row" s_is_row ["thing"] := dfn_mk KX G a_is_row l_is_row c_is_row_ k_is_row fun _ _ _ _ _ _ us hl => match us, hl with | [_], _ => rfl
  have D_check_row : Dfn K mg "check_row" s_check_row ["thing"] := dfn_mk KX G a_check_row l_check_row c_check_row_ k_check_row fun _ _ _ _ _ _ us hl => match us, hl with | [_], _ => rfl
  have D_common_begin : Dfn K mg "common_begin" s_common_begin ["one", "other"] := dfn_mk KX G a_common_begin l_common_begin c_common_begin_ k_common_begin fun _ _ _ _ _ _ us hl => match us, hl with | [_, _], _ => rfl
  have D_common_end : Dfn K mg "common_end" s_common_end ["one", "other", "most"] := dfn_mk KX G a_common_end l_common_end c_common_end_ k_common_end fun _ _ _ _ _ _ us hl => match us, hl with | [_, _, _], _ => rfl
  have D_figures_of : Dfn K mg "figures_of" s_figures_of ["number"] := dfn_mk KX G a_figures_of l_figures_of c_figures_of_ k_figures_of fun _ _ _ _ _ _ us hl => match us, hl with | [_], _ => rfl
  have D_part_row : Dfn K mg "part_row" s_part_row ["kind", "many"] := dfn_mk KX G a_part_row l_part_row c_part_row_ k_part_row fun _ _ _ _ _ _ us hl => match us, hl with | [_, _], _ => rfl
  have D_change_of : Dfn K mg "change_of" s_change_of ["one", "other"] := dfn_mk KX G a_change_of l_change_of c_change_of_ k_change_of fun _ _ _ _ _ _ us hl => match us, hl with | [_, _], _ => rfl
  have D_change : Dfn K mg "change" s_change ["one", "other"] := dfn_mk KX G a_change l_change c_change_ k_change fun _ _ _ _ _ _ us hl => match us, hl with | [_, _], _ => rfl
  have D__law_is_integer : Dfn K mg "_law_is_integer" s__law_is_integer ["_law_thing"] := dfn_mk KX G a__law_is_integer l__law_is_integer c__law_is_integer_ k__law_is_integer fun _ _ _ _ _ _ us hl => match us, hl with | [_], _ => rfl
  have D__law_same : Dfn K mg "_law_same" s__law_same ["_law_actual", "_law_due"] := dfn_mk KX G a__law_same l__law_same c__law_same_ k__law_same fun _ _ _ _ _ _ us hl => match us, hl with | [_, _], _ => rfl
  have D_number_at : Dfn K mg "number_at" s_number_at ["row", "at"] := dfn_mk KX G a_number_at l_number_at c_number_at_ k_number_at fun _ _ _ _ _ _ us hl => match us, hl with | [_, _], _ => rfl
  have D_part_at : Dfn K mg "part_at" s_part_at ["change", "at"] := dfn_mk KX G a_part_at l_part_at c_part_at_ k_part_at fun _ _ _ _ _ _ us hl => match us, hl with | [_, _], _ => rfl
  have D_changed_or_wrong : Dfn K mg "changed_or_wrong" s_changed_or_wrong ["one", "change"] := dfn_mk KX G a_changed_or_wrong l_changed_or_wrong c_changed_or_wrong_ k_changed_or_wrong fun _ _ _ _ _ _ us hl => match us, hl with | [_, _], _ => rfl
  have D_is_change : Dfn K mg "is_change" s_is_change ["one", "other", "thing"] := dfn_mk KX G a_is_change l_is_change c_is_change_ k_is_change fun _ _ _ _ _ _ us hl => match us, hl with | [_, _, _], _ => rfl
  have D__law_refused : Dfn K mg "_law_refused" s__law_refused ["_law_one", "_law_other"] := dfn_mk KX G a__law_refused l__law_refused c__law_refused_ k__law_refused fun _ _ _ _ _ _ us hl => match us, hl with | [_, _], _ => rfl
  have D_changed : Dfn K mg "changed" s_changed ["one", "change"] := dfn_mk KX G a_changed l_changed c_changed_ k_changed fun _ _ _ _ _ _ us hl => match us, hl with | [_, _], _ => rfl
  have D__law_told : Dfn K mg "_law_told" s__law_told ["_law_one", "_law_thing"] := dfn_mk KX G a__law_told l__law_told c__law_told_ k__law_told fun _ _ _ _ _ _ us hl => match us, hl with | [_, _], _ => rfl
  have D__law_is_within : Dfn K mg "_law_is_within" s__law_is_within ["_law_thing", "_law_least", "_law_most"] := dfn_mk KX G a__law_is_within l__law_is_within c__law_is_within_ k__law_is_within fun _ _ _ _ _ _ us hl => match us, hl with | [_, _, _], _ => rfl
  have D__law_is_row : Dfn K mg "_law_is_row" s__law_is_row ["_law_thing"] := dfn_mk KX G a__law_is_row l__law_is_row c__law_is_row_ k__law_is_row fun _ _ _ _ _ _ us hl => match us, hl with | [_], _ => rfl
  have D_law : Dfn K mg "law" s_law ["_law_script"] := dfn_mk KX G a_law l_law c_law_ k_law fun _ _ _ _ _ _ us hl => match us, hl with | [_], _ => rfl
  refine ⟨PySem.W.fnOf "law" "law" (defArgs s_law) (defBody s_law) (defScope s_law) .none kV_law dc_law pm_law an_law cd_law ct_law, fun s u => .of_eq rfl, fun base _ _ => ?_⟩
  have T : Txt P w K mg base c_NoRow c_BadChange := {
    n_list := PySem.W.mg_none_of KX G n_list,
    n_int := PySem.W.mg_none_of KX G n_int,
    n_len := PySem.W.mg_none_of KX G n_len,
    n_tuple := PySem.W.mg_none_of KX G n_tuple,
    n_range := PySem.W.mg_none_of KX G n_range,
    n_max := PySem.W.mg_none_of KX G n_max,
    n_isinstance := PySem.W.mg_none_of KX G n_isinstance,
    n_bool := PySem.W.mg_none_of KX G n_bool,
    n_all := PySem.W.mg_none_of KX G n_all,
    g_BYTE := gint_mk KX G g_BYTE,
    g_MOST_BYTES := gint_mk KX G g_MOST_BYTES,
    x_NoRow := exc0_mk KX G aE_NoRow xE_NoRow kE_NoRow bE_NoRow tE_NoRow,
    n_min := PySem.W.mg_none_of KX G n_min,
    g_FIGURE := gint_mk KX G g_FIGURE,
    g_PUT_IN := gint_mk KX G g_PUT_IN,
    g_KEPT := gint_mk KX G g_KEPT,
    g_LEFT_OUT := gint_mk KX G g_LEFT_OUT,
    g_LEAST_KEPT := gint_mk KX G g_LEAST_KEPT,
    n_zip := PySem.W.mg_none_of KX G n_zip,
    n_str := PySem.W.mg_none_of KX G n_str,
    g_MOST_FIGURES := gint_mk KX G g_MOST_FIGURES,
    g_WHOLE_BOUND := gint_mk KX G g_WHOLE_BOUND,
    x_BadChange := exc1_mk KX G aE_BadChange xL_BadChange bR_BadChange sa_BadChange ga_BadChange gg_BadChange no_BadChange iC_BadChange tI_BadChange lI_BadChange cI_BadChange kI_BadChange kE_BadChange bE_BadChange tE_BadChange hE_BadChange ⟨rfl, rfl, rfl, by decide +kernel, rfl, by decide +kernel, by decide +kernel⟩ rfl (by first | exact Or.inl rfl | exact Or.inr (Or.inl rfl) | exact Or.inr (Or.inr rfl)) (by first | exact Or.inl rfl | exact Or.inr (Or.inl rfl) | exact Or.inr (Or.inr rfl)) (by decide) (by decide) fun _ _ _ _ _ _ us hl => match us, hl with | [_, _], _ => rfl,
    m_NoRow_NoRow := m_NoRow_NoRow,
    m_BadChange_NoRow := m_BadChange_NoRow,
    m_NoRow_BadChange := m_NoRow_BadChange,
    m_BadChange_BadChange := m_BadChange_BadChange }
  have C__law_hand := ok__law_hand (P := P) (w := w) (base := base) T D__law_hand 
  have C__law_take := ok__law_take (P := P) (w := w) (base := base) T D__law_take 
  have C__law_pick := ok__law_pick (P := P) (w := w) (base := base) T D__law_pick C__law_take
  have C__law_bytes := ok__law_bytes (P := P) (w := w) (base := base) T D__law_bytes C__law_take C__law_pick
  have C__law_figures := ok__law_figures (P := P) (w := w) (base := base) T D__law_figures 
  have C__law_parts := ok__law_parts (P := P) (w := w) (base := base) T D__law_parts C__law_take C__law_bytes C__law_figures C__law_pick
  have C__law_number_at := ok__law_number_at (P := P) (w := w) (base := base) T D__law_number_at 
  have C__law_led := ok__law_led (P := P) (w := w) (base := base) T D__law_led C__law_number_at
  have C__law_near_row := ok__law_near_row (P := P) (w := w) (base := base) T D__law_near_row C__law_take C__law_bytes
  have C_is_integer := ok_is_integer (P := P) (w := w) (base := base) T D_is_integer 
  have C_is_within := ok_is_within (P := P) (w := w) (base := base) T D_is_within C_is_integer
  have C_is_below := ok_is_below (P := P) (w := w) (base := base) T D_is_below C_is_within
  have C_is_row := ok_is_row (P := P) (w := w) (base := base) T D_is_row C_is_below
  have C_check_row := ok_check_row (P := P) (w := w) (base := base) T D_check_row C_is_row
  have C_common_begin := ok_common_begin (P := P) (w := w) (base := base) T D_common_begin 
  have C_common_end := ok_common_end (P := P) (w := w) (base := base) T D_common_end 
  have C_figures_of := ok_figures_of (P := P) (w := w) (base := base) T D_figures_of 
  have C_part_row := ok_part_row (P := P) (w := w) (base := base) T D_part_row C_figures_of
  have C_change_of := ok_change_of (P := P) (w := w) (base := base) T D_change_of C_part_row C_common_end C_common_begin
  have C_change := ok_change (P := P) (w := w) (base := base) T D_change C_change_of C_check_row
  have C__law_is_integer := ok__law_is_integer (P := P) (w := w) (base := base) T D__law_is_integer 
  have C__law_same := ok__law_same (P := P) (w := w) (base := base) T D__law_same C__law_is_integer 4
  have C_number_at := ok_number_at (P := P) (w := w) (base := base) T D_number_at 
  have C_part_at := ok_part_at (P := P) (w := w) (base := base) T D_part_at C_number_at
  have C_changed_or_wrong := ok_changed_or_wrong (P := P) (w := w) (base := base) T D_changed_or_wrong C_part_at
  have C_is_change := ok_is_change (P := P) (w := w) (base := base) T D_is_change C_changed_or_wrong C_is_row C_check_row
  have C__law_refused := ok__law_refused (P := P) (w := w) (base := base) T D__law_refused C_is_change C_change
  have C_changed := ok_changed (P := P) (w := w) (base := base) T D_changed C_changed_or_wrong C_check_row
  have C__law_told := ok__law_told (P := P) (w := w) (base := base) T D__law_told C_changed
  have C__law_is_within := ok__law_is_within (P := P) (w := w) (base := base) T D__law_is_within C__law_is_integer
  have C__law_is_row := ok__law_is_row (P := P) (w := w) (base := base) T D__law_is_row C__law_is_within
  exact ok_law T (fun_mk l_law c_law_ k_law) C__law_told C_is_change C__law_refused C__law_pick C__law_same C_changed C__law_led C__law_is_row C_change C__law_near_row C__law_parts C__law_take C__law_bytes C__law_hand
end Lw
open PySem PySem.W PyProof.Rows
set_option maxRecDepth 100000 in
set_option maxHeartbeats 0 in
theorem PySem.Challenge.cw_allbrought_k26_whole_changes_of_rows_holds : PySem.Challenge.rw_allbrought_k26_whole_changes_of_rows.Holds := by
  w_on; o_law; k_head; (case hw => w_witness2)
  k_fill
  refine Dn.walk_ofX (l := PySem.Challenge.rw_allbrought_k26_whole_changes_of_rows) (n := 63) (k := 8) (x := "_law_script") rfl (by decide) rfl ⟨rfl, by decide, by decide⟩ (fun w h Y => PySem.W.kIn_of Y) ?F
  case F =>
    intro w mg fa h KX G hX hmg
    refine' Lw.all_mk KX G hmg ?n_list ?n_int ?n_len ?n_tuple ?n_range ?n_max ?n_isinstance ?n_bool ?n_all ?g_BYTE ?g_MOST_BYTES ?aE_NoRow ?xE_NoRow ?kE_NoRow ?bE_NoRow ?tE_NoRow ?n_min ?g_FIGURE ?g_PUT_IN ?g_KEPT ?g_LEFT_OUT ?g_LEAST_KEPT ?n_zip ?n_str ?g_MOST_FIGURES ?g_WHOLE_BOUND ?aE_BadChange ?xL_BadChange ?bR_BadChange ?sa_BadChange ?ga_BadChange ?gg_BadChange ?no_BadChange ?iC_BadChange ?tI_BadChange ?lI_BadChange ?cI_BadChange ?kI_BadChange ?kE_BadChange ?bE_BadChange ?tE_BadChange ?hE_BadChange ?m_NoRow_NoRow ?m_BadChange_NoRow ?m_NoRow_BadChange ?m_BadChange_BadChange ?a__law_hand ?l__law_hand ?c__law_hand_ ?k__law_hand ?a__law_take ?l__law_take ?c__law_take_ ?k__law_take ?a__law_pick ?l__law_pick ?c__law_pick_ ?k__law_pick ?a__law_bytes ?l__law_bytes ?c__law_bytes_ ?k__law_bytes ?a__law_figures ?l__law_figures ?c__law_figures_ ?k__law_figures ?a__law_parts ?l__law_parts ?c__law_parts_ ?k__law_parts ?a__law_number_at ?l__law_number_at ?c__law_number_at_ ?k__law_number_at ?a__law_led ?l__law_led ?c__law_led_ ?k__law_led ?a__law_near_row ?l__law_near_row ?c__law_near_row_ ?k__law_near_row ?a_is_integer ?l_is_integer ?c_is_integer_ ?k_is_integer ?a_is_within ?l_is_within ?c_is_within_ ?k_is_within ?a_is_below ?l_is_below ?c_is_below_ ?k_is_below ?a_is_row ?l_is_row ?c_is_row_ ?k_is_row ?a_check_row ?l_check_row ?c_check_row_ ?k_check_row ?a_common_begin ?l_common_begin ?c_common_begin_ ?k_common_begin ?a_common_end ?l_common_end ?c_common_end_ ?k_common_end ?a_figures_of ?l_figures_of ?c_figures_of_ ?k_figures_of ?a_part_row ?l_part_row ?c_part_row_ ?k_part_row ?a_change_of ?l_change_of ?c_change_of_ ?k_change_of ?a_change ?l_change ?c_change_ ?k_change ?a__law_is_integer ?l__law_is_integer ?c__law_is_integer_ ?k__law_is_integer ?a__law_same ?l__law_same ?c__law_same_ ?k__law_same ?a_number_at ?l_number_at ?c_number_at_ ?k_number_at ?a_part_at ?l_part_at ?c_part_at_ ?k_part_at ?a_changed_or_wrong ?l_changed_or_wrong ?c_changed_or_wrong_ ?k_changed_or_wrong ?a_is_change ?l_is_change ?c_is_change_ ?k_is_change ?a__law_refused ?l__law_refused ?c__law_refused_ ?k__law_refused ?a_changed ?l_changed ?c_changed_ ?k_changed ?a__law_told ?l__law_told ?c__law_told_ ?k__law_told ?a__law_is_within ?l__law_is_within ?c__law_is_within_ ?k__law_is_within ?a__law_is_row ?l__law_is_row ?c__law_is_row_ ?k__law_is_row ?a_law ?l_law ?c_law_ ?k_law
    (case n_list => k_is)
    (case n_int => k_is)
    (case n_len => k_is)
    (case n_tuple => k_is)
    (case n_range => k_is)
    (case n_max => k_is)
    (case n_isinstance => k_is)
    (case n_bool => k_is)
    (case n_all => k_is)
    (case g_BYTE => k_is)
    (case g_MOST_BYTES => k_is)
    (case aE_NoRow => k_is)
    (case xE_NoRow => first | k_exc | k_is)
    (case kE_NoRow => k_is)
    (case bE_NoRow => k_is)
    (case tE_NoRow => k_is)
    (case n_min => k_is)
    (case g_FIGURE => k_is)
    (case g_PUT_IN => k_is)
    (case g_KEPT => k_is)
    (case g_LEFT_OUT => k_is)
    (case g_LEAST_KEPT => k_is)
    (case n_zip => k_is)
    (case n_str => k_is)
    (case g_MOST_FIGURES => k_is)
    (case g_WHOLE_BOUND => k_is)
    (case aE_BadChange => k_is)
    (case xL_BadChange => k_is)
    (case bR_BadChange => first | rfl | decide +kernel | k_is)
    (case sa_BadChange => k_is)
    (case ga_BadChange => k_is)
    (case gg_BadChange => k_is)
    (case no_BadChange => k_is)
    (case iC_BadChange => k_is)
    (case tI_BadChange => k_is)
    (case lI_BadChange => k_is)
    (case cI_BadChange => k_is)
    (case kI_BadChange => k_is)
    (case kE_BadChange => k_is)
    (case bE_BadChange => k_is)
    (case tE_BadChange => k_is)
    (case hE_BadChange => k_is)
    (case m_NoRow_NoRow => first | rfl | k_is)
    (case m_BadChange_NoRow => first | rfl | k_is)
    (case m_NoRow_BadChange => first | rfl | k_is)
    (case m_BadChange_BadChange => first | rfl | k_is)
    (case a__law_hand => k_is)
    (case l__law_hand => k_is)
    (case c__law_hand_ => k_is)
    (case k__law_hand => k_is)
    (case a__law_take => k_is)
    (case l__law_take => k_is)
    (case c__law_take_ => k_is)
    (case k__law_take => k_is)
    (case a__law_pick => k_is)
    (case l__law_pick => k_is)
    (case c__law_pick_ => k_is)
    (case k__law_pick => k_is)
    (case a__law_bytes => k_is)
    (case l__law_bytes => k_is)
    (case c__law_bytes_ => k_is)
    (case k__law_bytes => k_is)
    (case a__law_figures => k_is)
    (case l__law_figures => k_is)
    (case c__law_figures_ => k_is)
    (case k__law_figures => k_is)
    (case a__law_parts => k_is)
    (case l__law_parts => k_is)
    (case c__law_parts_ => k_is)
    (case k__law_parts => k_is)
    (case a__law_number_at => k_is)
    (case l__law_number_at => k_is)
    (case c__law_number_at_ => k_is)
    (case k__law_number_at => k_is)
    (case a__law_led => k_is)
    (case l__law_led => k_is)
    (case c__law_led_ => k_is)
    (case k__law_led => k_is)
    (case a__law_near_row => k_is)
    (case l__law_near_row => k_is)
    (case c__law_near_row_ => k_is)
    (case k__law_near_row => k_is)
    (case a_is_integer => k_is)
    (case l_is_integer => k_is)
    (case c_is_integer_ => k_is)
    (case k_is_integer => k_is)
    (case a_is_within => k_is)
    (case l_is_within => k_is)
    (case c_is_within_ => k_is)
    (case k_is_within => k_is)
    (case a_is_below => k_is)
    (case l_is_below => k_is)
    (case c_is_below_ => k_is)
    (case k_is_below => k_is)
    (case a_is_row => k_is)
    (case l_is_row => k_is)
    (case c_is_row_ => k_is)
    (case k_is_row => k_is)
    (case a_check_row => k_is)
    (case l_check_row => k_is)
    (case c_check_row_ => k_is)
    (case k_check_row => k_is)
    (case a_common_begin => k_is)
    (case l_common_begin => k_is)
    (case c_common_begin_ => k_is)
    (case k_common_begin => k_is)
    (case a_common_end => k_is)
    (case l_common_end => k_is)
    (case c_common_end_ => k_is)
    (case k_common_end => k_is)
    (case a_figures_of => k_is)
    (case l_figures_of => k_is)
    (case c_figures_of_ => k_is)
    (case k_figures_of => k_is)
    (case a_part_row => k_is)
    (case l_part_row => k_is)
    (case c_part_row_ => k_is)
    (case k_part_row => k_is)
    (case a_change_of => k_is)
    (case l_change_of => k_is)
    (case c_change_of_ => k_is)
    (case k_change_of => k_is)
    (case a_change => k_is)
    (case l_change => k_is)
    (case c_change_ => k_is)
    (case k_change => k_is)
    (case a__law_is_integer => k_is)
    (case l__law_is_integer => k_is)
    (case c__law_is_integer_ => k_is)
    (case k__law_is_integer => k_is)
    (case a__law_same => k_is)
    (case l__law_same => k_is)
    (case c__law_same_ => k_is)
    (case k__law_same => k_is)
    (case a_number_at => k_is)
    (case l_number_at => k_is)
    (case c_number_at_ => k_is)
    (case k_number_at => k_is)
    (case a_part_at => k_is)
    (case l_part_at => k_is)
    (case c_part_at_ => k_is)
    (case k_part_at => k_is)
    (case a_changed_or_wrong => k_is)
    (case l_changed_or_wrong => k_is)
    (case c_changed_or_wrong_ => k_is)
    (case k_changed_or_wrong => k_is)
    (case a_is_change => k_is)
    (case l_is_change => k_is)
    (case c_is_change_ => k_is)
    (case k_is_change => k_is)
    (case a__law_refused => k_is)
    (case l__law_refused => k_is)
    (case c__law_refused_ => k_is)
    (case k__law_refused => k_is)
    (case a_changed => k_is)
    (case l_changed => k_is)
    (case c_changed_ => k_is)
    (case k_changed => k_is)
    (case a__law_told => k_is)
    (case l__law_told => k_is)
    (case c__law_told_ => k_is)
    (case k__law_told => k_is)
    (case a__law_is_within => k_is)
    (case l__law_is_within => k_is)
    (case c__law_is_within_ => k_is)
    (case k__law_is_within => k_is)
    (case a__law_is_row => k_is)
    (case l__law_is_row => k_is)
    (case c__law_is_row_ => k_is)
    (case k__law_is_row => k_is)
    (case a_law => k_is)
    (case l_law => k_is)
    (case c_law_ => k_is)
    (case k_law => k_is)
