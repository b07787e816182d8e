import PyProof.Rows.All
import Wide.All
import OpenK.AllK
import Wide.FinOn
import HandS.ForMost
import HandS.Exc
import HandS.TryMany
import HandS.Wide
import HandS.IsInst
import HandS.TupAny
import HandS.TupMul
import HandS.Flow
import HandS.Rev
import HandS.RevRange
import HandS.Zip
import HandS.CallSlots
import HandS.WordsExc
import HandS.Deep
import HandS.ExcInit
import HandS.ExcField
import HandS.ClsMeth
import HandS.Defaults
import HandS.RaiseMore
import PyProof.P3Eq
import KE.KTupSum
import KE.GoesEnum
import PyProof.WalksMore
import HandS.Strs
import HandS.ExcIs
import HandS.Style
import HandS.MakeKw
import HandS.HotCalls
import PySem.Challenge.RW_rankwords_k00_whole_fields_made_and_refu
set_option Elab.async false
set_option linter.all false
set_option maxRecDepth 100000
set_option maxHeartbeats 1000000
/-! VM 1: plain data, how it lies in the heap, environments with ownership -/
namespace VM
open PySem PySem.Spec PyProof.Rows L2

inductive D where
  | non | bl (b : Bool) | int (i : Int) | str (s : Str) | scr (ns : List Int)
  | ty (n : String) | cl (c : Nat)
  | lst (xs : List D) | tup (xs : List D) | ins (c : Nat) (ns : List Str) (xs : List D)
  | dic (ks : List (List Int)) (xs : List D)
  | tupf (xs : List D)
instance : Inhabited D := ⟨.non⟩
/-- flat: holds no object -/
def D.flat : D → Bool
  | .non | .bl _ | .int _ | .str _ | .ty _ | .cl _ => true
  | _ => false

structure Ct where
  K : PySem.W.Frag
  cm : Nat → Addr

/-- a dict whose keys are tuples of ints -/
def kvT (ks : List (List Int)) (vs : List V) : List (List Key × V) := (ks.map fun k => k.map Sum.inl).zip vs
def Ex (H H' : Hp) : Prop := ∀ a o, H a = some o → H' a = some o
theorem Ex.refl (H : Hp) : Ex H H := fun _ _ h => h
theorem Ex.trans {H H1 H2 : Hp} (a : Ex H H1) (b : Ex H1 H2) : Ex H H2 := fun x o h => b x o (a x o h)
theorem Ex.new {H : Hp} {p : Addr} {o : HO} (h : H p = none) : Ex H (upd H p o) := fun a u e => by
  rw [upd_ne (ne_of_none e h)]; exact e
theorem Ex.mut {H H' : Hp} {p : Addr} {o : HO} (e : Ex H H') (h : H p = none) : Ex H (upd H' p o) := fun a u ha => by
  rw [upd_ne (ne_of_none ha h)]; exact e a u ha
theorem Ex.back {H H' : Hp} {p : Addr} (e : Ex H H') (h : H' p = none) : H p = none := by
  cases h1 : H p with
  | none => rfl
  | some o => rw [e p o h1] at h; cases h
theorem Ex.updB {H H' : Hp} {p : Addr} {o : HO} (e : Ex H H') (h : H' p = some o) : Ex (upd H p o) H' := fun a u ha => by
  by_cases q : a = p
  · subst q; rw [upd_same] at ha; cases ha; exact h
  · rw [upd_ne q] at ha; exact e a u ha
theorem ex_rd {H H' : Hp} {a : Addr} {u : HO} (e : Ex H H') (h : Rd H a u) : Rd H' a u := by
  rcases h with h | ⟨o, h⟩
  · exact Or.inl (e a _ h)
  · exact Or.inr ⟨o, e a _ h⟩
theorem ex_l {K : PySem.W.Frag} {H H' : Hp} {a : Addr} {xs : List V} (e : Ex H H') (h : SqL K H a xs) : SqL K H' a xs := by
  rcases h with h | h
  · exact Or.inl (ex_rd e h)
  · exact Or.inr h

mutual
/-- v stands for d in H -/
def Rp (C : Ct) (H : Hp) : D → V → Prop
  | .non, v => v = .non
  | .bl b, v => v = .bl b
  | .int i, v => v = .int i
  | .str s, v => v = .str s
  | .ty n, v => v = .ty n
  | .cl c, v => v = .ref (C.cm c)
  | .scr ns, v => ∃ a, v = .ref a ∧ SqL C.K H a (ns.map V.int)
  | .lst xs, v => ∃ a vs, v = .ref a ∧ H a = some (.lst vs) ∧ RpL C H xs vs
  | .tup xs, v => ∃ a vs, v = .ref a ∧ H a = some (.tup vs) ∧ RpL C H xs vs
  | .ins c ns xs, v => ∃ a dx vs, v = .ref a ∧ H a = some (.ins (C.cm c) dx (ns.zip vs)) ∧ H dx = some (.own a) ∧ ns.length = vs.length ∧ RpL C H xs vs
  | .dic ks xs, v => ∃ a vs, v = .ref a ∧ H a = some (.dT (kvT ks vs)) ∧ ks.length = vs.length ∧ RpL C H xs vs
  | .tupf xs, v => ∃ a o vs, v = .ref a ∧ H a = some (.frz o (.tup vs)) ∧ o.cls = .type "tuple" ∧ o.dict = none ∧ RpL C H xs vs
def RpL (C : Ct) (H : Hp) : List D → List V → Prop
  | [], vs => vs = []
  | d :: ds, vs => ∃ v r, vs = v :: r ∧ Rp C H d v ∧ RpL C H ds r
end
section
variable {C : Ct} {H H' : Hp}
mutual
theorem Rp.mono (e : Ex H H') : ∀ {d : D} {v : V}, Rp C H d v → Rp C H' d v
  | .non, _, h => h
  | .bl _, _, h => h
  | .int _, _, h => h
  | .str _, _, h => h
  | .ty _, _, h => h
  | .cl _, _, h => h
  | .scr ns, v, h => by
    unfold Rp at h ⊢
    obtain ⟨a, rfl, h⟩ := h
    exact ⟨a, rfl, ex_l e h⟩
  | .lst xs, v, h => by
    unfold Rp at h ⊢
    obtain ⟨a, vs, rfl, h1, h2⟩ := h
    exact ⟨a, vs, rfl, e _ _ h1, RpL.mono e h2⟩
  | .tup xs, v, h => by
    unfold Rp at h ⊢
    obtain ⟨a, vs, rfl, h1, h2⟩ := h
    exact ⟨a, vs, rfl, e _ _ h1, RpL.mono e h2⟩
  | .ins c ns xs, v, h => by
    unfold Rp at h ⊢
    obtain ⟨a, dx, vs, rfl, h1, h2, h3, h4⟩ := h
    exact ⟨a, dx, vs, rfl, e _ _ h1, e _ _ h2, h3, RpL.mono e h4⟩
  | .dic ks xs, v, h => by
    unfold Rp at h ⊢
    obtain ⟨a, vs, rfl, h1, h3, h4⟩ := h
    exact ⟨a, vs, rfl, e _ _ h1, h3, RpL.mono e h4⟩
  | .tupf xs, v, h => by
    unfold Rp at h ⊢
    obtain ⟨a, o, vs, rfl, h1, h3, h5, h4⟩ := h
    exact ⟨a, o, vs, rfl, e _ _ h1, h3, h5, RpL.mono e h4⟩
theorem RpL.mono (e : Ex H H') : ∀ {ds : List D} {vs : List V}, RpL C H ds vs → RpL C H' ds vs
  | [], _, h => by unfold RpL at h ⊢; exact h
  | d :: ds, vs, h => by
    unfold RpL at h ⊢
    obtain ⟨v, r, rfl, h1, h2⟩ := h
    exact ⟨v, r, rfl, Rp.mono e h1, RpL.mono e h2⟩
end
theorem RpL.nil : RpL C H [] [] := by unfold RpL; rfl
theorem RpL.cons {d : D} {v : V} {ds : List D} {vs : List V} (h : Rp C H d v) (t : RpL C H ds vs) : RpL C H (d :: ds) (v :: vs) := by
  unfold RpL; exact ⟨v, vs, rfl, h, t⟩
theorem RpL.len : ∀ {ds : List D} {vs : List V}, RpL C H ds vs → ds.length = vs.length
  | [], _, h => by unfold RpL at h; subst h; rfl
  | d :: ds, vs, h => by
    unfold RpL at h
    obtain ⟨v, r, rfl, h1, h2⟩ := h
    simp [RpL.len h2]
theorem RpL.get : ∀ {ds : List D} {vs : List V} {i : Nat} {d : D}, RpL C H ds vs → ds[i]? = some d → ∃ v, vs[i]? = some v ∧ Rp C H d v
  | [], _, _, _, _, e => by simp at e
  | d :: ds, vs, i, x, h, e => by
    unfold RpL at h
    obtain ⟨v, r, rfl, h1, h2⟩ := h
    cases i with
    | zero => simp at e; subst e; exact ⟨v, rfl, h1⟩
    | succ i => simpa using RpL.get h2 (by simpa using e)
theorem RpL.getV : ∀ {ds : List D} {vs : List V} {i : Nat} {v : V}, RpL C H ds vs → vs[i]? = some v → ∃ d, ds[i]? = some d ∧ Rp C H d v
  | [], _, _, _, h, e => by unfold RpL at h; subst h; simp at e
  | d :: ds, vs, i, x, h, e => by
    unfold RpL at h
    obtain ⟨v, r, rfl, h1, h2⟩ := h
    cases i with
    | zero => simp at e; subst e; exact ⟨d, rfl, h1⟩
    | succ i => simpa using RpL.getV h2 (by simpa using e)
theorem RpL.append : ∀ {ds es : List D} {vs ws : List V}, RpL C H ds vs → RpL C H es ws → RpL C H (ds ++ es) (vs ++ ws)
  | [], _, _, _, h, t => by unfold RpL at h; subst h; exact t
  | d :: ds, _, _, _, h, t => by
    unfold RpL at h
    obtain ⟨v, r, rfl, h1, h2⟩ := h
    exact RpL.cons h1 (RpL.append h2 t)
theorem RpL.set : ∀ {ds : List D} {vs : List V} {i : Nat} {d : D} {v : V}, RpL C H ds vs → Rp C H d v → RpL C H (ds.set i d) (vs.set i v)
  | [], _, _, _, _, h, _ => by unfold RpL at h; subst h; exact RpL.nil
  | d :: ds, vs, i, x, y, h, q => by
    unfold RpL at h
    obtain ⟨v, r, rfl, h1, h2⟩ := h
    cases i with
    | zero => exact RpL.cons q h2
    | succ i => exact RpL.cons h1 (RpL.set h2 q)
theorem RpL.take : ∀ {ds : List D} {vs : List V} (n : Nat), RpL C H ds vs → RpL C H (ds.take n) (vs.take n)
  | [], _, _, h => by unfold RpL at h; subst h; simp; exact RpL.nil
  | d :: ds, vs, n, h => by
    unfold RpL at h
    obtain ⟨v, r, rfl, h1, h2⟩ := h
    cases n with
    | zero => exact RpL.nil
    | succ n => exact RpL.cons h1 (RpL.take n h2)
theorem RpL.drop : ∀ {ds : List D} {vs : List V} (n : Nat), RpL C H ds vs → RpL C H (ds.drop n) (vs.drop n)
  | [], _, _, h => by unfold RpL at h; subst h; simp; exact RpL.nil
  | d :: ds, vs, n, h => by
    have h' := h
    unfold RpL at h'
    obtain ⟨v, r, rfl, h1, h2⟩ := h'
    cases n with
    | zero => exact h
    | succ n => exact RpL.drop n h2
theorem RpL.reverse : ∀ {ds : List D} {vs : List V}, RpL C H ds vs → RpL C H ds.reverse vs.reverse
  | [], _, h => by unfold RpL at h; subst h; exact RpL.nil
  | d :: ds, vs, h => by
    unfold RpL at h
    obtain ⟨v, r, rfl, h1, h2⟩ := h
    rw [List.reverse_cons, List.reverse_cons]
    exact RpL.append (RpL.reverse h2) (RpL.cons h1 RpL.nil)
theorem RpL.inv {d : D} {ds : List D} {vs : List V} (h : RpL C H (d :: ds) vs) : ∃ v r, vs = v :: r ∧ Rp C H d v ∧ RpL C H ds r := by
  unfold RpL at h; exact h
end

/-! ### objects owned by a slot: known to no one else -/
/-- at a stands d, its inner things in Hk; G, what others may rely on, does not know it -/
def OwA (C : Ct) (G Hk H : Hp) (a : Addr) : D → Prop
  | .lst xs => G a = none ∧ ∃ vs, H a = some (.lst vs) ∧ RpL C Hk xs vs
  | .ins c ns xs => G a = none ∧ ∃ dx vs, H a = some (.ins (C.cm c) dx (ns.zip vs)) ∧ H dx = some (.own a) ∧ ns.length = vs.length ∧ RpL C Hk xs vs ∧ G dx = none
  | .dic ks xs => G a = none ∧ ∃ vs, H a = some (.dT (kvT ks vs)) ∧ ks.length = vs.length ∧ RpL C Hk xs vs
  | _ => False
section
variable {C : Ct} {G Hk Hk' H H' : Hp} {a b : Addr} {d : D} {o : HO}
theorem OwA.kmono (e : Ex Hk Hk') (h : OwA C G Hk H a d) : OwA C G Hk' H a d := by
  cases d with
  | lst xs => obtain ⟨g, vs, h1, h2⟩ := h; exact ⟨g, vs, h1, h2.mono e⟩
  | ins c ns xs => obtain ⟨g, dx, vs, h1, h2, h3, h4, h5⟩ := h; exact ⟨g, dx, vs, h1, h2, h3, h4.mono e, h5⟩
  | dic ks xs => obtain ⟨g, vs, h1, h2, h3⟩ := h; exact ⟨g, vs, h1, h2, h3.mono e⟩
  | _ => exact h.elim
theorem OwA.hmono (e : Ex H H') (h : OwA C G Hk H a d) : OwA C G Hk H' a d := by
  cases d with
  | lst xs => obtain ⟨g, vs, h1, h2⟩ := h; exact ⟨g, vs, e _ _ h1, h2⟩
  | ins c ns xs => obtain ⟨g, dx, vs, h1, h2, h3, h4, h5⟩ := h; exact ⟨g, dx, vs, e _ _ h1, e _ _ h2, h3, h4, h5⟩
  | dic ks xs => obtain ⟨g, vs, h1, h2, h3⟩ := h; exact ⟨g, vs, e _ _ h1, h2, h3⟩
  | _ => exact h.elim
theorem OwA.gmono {G' : Hp} (e : Ex G' G) (h : OwA C G Hk H a d) : OwA C G' Hk H a d := by
  cases d with
  | lst xs => obtain ⟨g, vs, h1, h2⟩ := h; exact ⟨e.back g, vs, h1, h2⟩
  | ins c ns xs => obtain ⟨g, dx, vs, h1, h2, h3, h4, h5⟩ := h; exact ⟨e.back g, dx, vs, h1, h2, h3, h4, e.back h5⟩
  | dic ks xs => obtain ⟨g, vs, h1, h2, h3⟩ := h; exact ⟨e.back g, vs, h1, h2, h3⟩
  | _ => exact h.elim
theorem OwA.g (h : OwA C G Hk H a d) : G a = none := by
  cases d with
  | lst xs => exact h.1
  | ins c ns xs => exact h.1
  | dic ks xs => exact h.1
  | _ => exact h.elim
/-- an owned object is a list or an instance -/
def isOw : HO → Prop
  | .lst _ => True
  | .ins _ _ _ => True
  | .dT _ => True
  | _ => False
theorem OwA.at (h : OwA C G Hk H a d) : ∃ o, H a = some o ∧ isOw o := by
  cases d with
  | lst xs => obtain ⟨g, vs, h1, h2⟩ := h; exact ⟨_, h1, trivial⟩
  | ins c ns xs => obtain ⟨g, dx, vs, h1, h2, h3, h4, h5⟩ := h; exact ⟨_, h1, trivial⟩
  | dic ks xs => obtain ⟨g, vs, h1, h2, h3⟩ := h; exact ⟨_, h1, trivial⟩
  | _ => exact h.elim
/-- another owned object changes -/
theorem OwA.other (h : OwA C G Hk H a d) (hb : ∃ u, H b = some u ∧ isOw u) (ne : a ≠ b) : OwA C G Hk (upd H b o) a d := by
  cases d with
  | lst xs => obtain ⟨g, vs, h1, h2⟩ := h; exact ⟨g, vs, by rw [upd_ne ne]; exact h1, h2⟩
  | ins c ns xs =>
    obtain ⟨g, dx, vs, h1, h2, h3, h4, h5⟩ := h
    refine ⟨g, dx, vs, by rw [upd_ne ne]; exact h1, ?_, h3, h4, h5⟩
    obtain ⟨u, hu, iu⟩ := hb
    have : dx ≠ b := fun e => by subst e; rw [h2] at hu; cases hu; exact iu
    rw [upd_ne this]; exact h2
  | dic ks xs => obtain ⟨g, vs, h1, h2, h3⟩ := h; exact ⟨g, vs, by rw [upd_ne ne]; exact h1, h2, h3⟩
  | _ => exact h.elim
end

/-- v stands for d, its inner things in Hk, itself in H: shared or owned -/
def Pk (C : Ct) (Hk H : Hp) (d : D) (v : V) : Prop := Rp C Hk d v ∨ ∃ a G, v = .ref a ∧ OwA C G Hk H a d
section
variable {C : Ct} {Hk H : Hp}
theorem Pk.lst {xs : List D} {v : V} (e : Ex Hk H) (h : Pk C Hk H (.lst xs) v) : ∃ a vs, v = .ref a ∧ H a = some (.lst vs) ∧ RpL C Hk xs vs := by
  rcases h with h | ⟨a, G, rfl, g, vs, h1, h2⟩
  · unfold Rp at h
    obtain ⟨a, vs, rfl, h1, h2⟩ := h
    exact ⟨a, vs, rfl, e _ _ h1, h2⟩
  · exact ⟨a, vs, rfl, h1, h2⟩
theorem Pk.tup {xs : List D} {v : V} (e : Ex Hk H) (h : Pk C Hk H (.tup xs) v) : ∃ a vs, v = .ref a ∧ H a = some (.tup vs) ∧ RpL C Hk xs vs ∧ Rp C Hk (.tup xs) v := by
  rcases h with h | ⟨a, G, rfl, h⟩
  · have h' := h
    unfold Rp at h
    obtain ⟨a, vs, rfl, h1, h2⟩ := h
    exact ⟨a, vs, rfl, e _ _ h1, h2, h'⟩
  · exact h.elim
theorem Pk.ins {c : Nat} {ns : List Str} {xs : List D} {v : V} (e : Ex Hk H) (h : Pk C Hk H (.ins c ns xs) v) :
    ∃ a dx vs, v = .ref a ∧ H a = some (.ins (C.cm c) dx (ns.zip vs)) ∧ H dx = some (.own a) ∧ ns.length = vs.length ∧ RpL C Hk xs vs := by
  rcases h with h | ⟨a, G, rfl, g, dx, vs, h1, h2, h3, h4, h5⟩
  · unfold Rp at h
    obtain ⟨a, dx, vs, rfl, h1, h2, h3, h4⟩ := h
    exact ⟨a, dx, vs, rfl, e _ _ h1, e _ _ h2, h3, h4⟩
  · exact ⟨a, dx, vs, rfl, h1, h2, h3, h4⟩
theorem Pk.dic {ks : List (List Int)} {xs : List D} {v : V} (e : Ex Hk H) (h : Pk C Hk H (.dic ks xs) v) : ∃ a vs, v = .ref a ∧ H a = some (.dT (kvT ks vs)) ∧ ks.length = vs.length ∧ RpL C Hk xs vs := by
  rcases h with h | ⟨a, G, rfl, g, vs, h1, h2, h3⟩
  · unfold Rp at h
    obtain ⟨a, vs, rfl, h1, h2, h3⟩ := h
    exact ⟨a, vs, rfl, e _ _ h1, h2, h3⟩
  · exact ⟨a, vs, rfl, h1, h2, h3⟩
theorem Pk.tupf {xs : List D} {v : V} (e : Ex Hk H) (h : Pk C Hk H (.tupf xs) v) : ∃ a o vs, v = .ref a ∧ H a = some (.frz o (.tup vs)) ∧ o.cls = .type "tuple" ∧ o.dict = none ∧ RpL C Hk xs vs := by
  rcases h with h | ⟨a, G, rfl, h⟩
  · unfold Rp at h
    obtain ⟨a, o, vs, rfl, h1, h2, h3, h4⟩ := h
    exact ⟨a, o, vs, rfl, e _ _ h1, h2, h3, h4⟩
  · exact h.elim
theorem Pk.scr {ns : List Int} {v : V} (e : Ex Hk H) (h : Pk C Hk H (.scr ns) v) : ∃ a, v = .ref a ∧ SqL C.K H a (ns.map V.int) := by
  rcases h with h | ⟨a, G, rfl, h⟩
  · unfold Rp at h
    obtain ⟨a, rfl, h⟩ := h
    exact ⟨a, rfl, ex_l e h⟩
  · exact h.elim
theorem Pk.int {i : Int} {v : V} (h : Pk C Hk H (.int i) v) : v = .int i := by
  rcases h with h | ⟨a, G, rfl, h⟩
  · unfold Rp at h; exact h
  · exact h.elim
theorem Pk.bl {b : Bool} {v : V} (h : Pk C Hk H (.bl b) v) : v = .bl b := by
  rcases h with h | ⟨a, G, rfl, h⟩
  · unfold Rp at h; exact h
  · exact h.elim
theorem Pk.non {v : V} (h : Pk C Hk H .non v) : v = .non := by
  rcases h with h | ⟨a, G, rfl, h⟩
  · unfold Rp at h; exact h
  · exact h.elim
theorem Pk.str {s : Str} {v : V} (h : Pk C Hk H (.str s) v) : v = .str s := by
  rcases h with h | ⟨a, G, rfl, h⟩
  · unfold Rp at h; exact h
  · exact h.elim
theorem Pk.ty {n : String} {v : V} (h : Pk C Hk H (.ty n) v) : v = .ty n := by
  rcases h with h | ⟨a, G, rfl, h⟩
  · unfold Rp at h; exact h
  · exact h.elim
theorem Pk.cl {c : Nat} {v : V} (h : Pk C Hk H (.cl c) v) : v = .ref (C.cm c) := by
  rcases h with h | ⟨a, G, rfl, h⟩
  · unfold Rp at h; exact h
  · exact h.elim
/-- in all of H it is known -/
theorem Pk.all {d : D} {v : V} (e : Ex Hk H) (h : Pk C Hk H d v) : Rp C H d v := by
  rcases h with h | ⟨a, G, rfl, h⟩
  · exact h.mono e
  · cases d with
    | lst xs => obtain ⟨g, vs, h1, h2⟩ := h; unfold Rp; exact ⟨a, vs, rfl, h1, h2.mono e⟩
    | ins c ns xs => obtain ⟨g, dx, vs, h1, h2, h3, h4, h5⟩ := h; unfold Rp; exact ⟨a, dx, vs, rfl, h1, h2, h3, h4.mono e⟩
    | dic ks xs => obtain ⟨g, vs, h1, h2, h3⟩ := h; unfold Rp; exact ⟨a, vs, rfl, h1, h2, h3.mono e⟩
    | _ => exact h.elim
end
theorem rp_int {C : Ct} {H : Hp} {i : Int} : Rp C H (.int i) (.int i) := by unfold Rp; rfl
theorem rp_bl {C : Ct} {H : Hp} {b : Bool} : Rp C H (.bl b) (.bl b) := by unfold Rp; rfl
theorem rp_non {C : Ct} {H : Hp} : Rp C H .non .non := by unfold Rp; rfl
theorem rp_str {C : Ct} {H : Hp} {s : Str} : Rp C H (.str s) (.str s) := by unfold Rp; rfl
theorem rp_flat {C : Ct} {H H' : Hp} {d : D} {v : V} (f : d.flat = true) (h : Rp C H d v) : Rp C H' d v := by
  cases d <;> first | (simp [D.flat] at f; done) | (unfold Rp at h ⊢; exact h)

/-! ### environments -/
inductive S where
  | no | sh (d : D) | ow (d : D) | xv (c : Nat) (ns : List Str) (ds : List D)
instance : Inhabited S := ⟨.no⟩
abbrev Env := List S

/-- an exception: its class and attributes -/
def RpX (C : Ct) (Hk H : Hp) (c : Nat) (ns : List Str) (ds : List D) (cls : Value) (dd : Option Addr) : Prop :=
  cls = .ref (C.cm c) ∧ ((ns = [] ∧ ds = [] ∧ dd = none) ∨ ∃ d vs, dd = some d ∧ H d = some (.xd (ns.zip vs)) ∧ ns.length = vs.length ∧ RpL C Hk ds vs)
theorem RpX.kmono {C : Ct} {Hk Hk' H : Hp} {c : Nat} {ns : List Str} {ds : List D} {cls : Value} {dd : Option Addr} (e : Ex Hk Hk') (h : RpX C Hk H c ns ds cls dd) : RpX C Hk' H c ns ds cls dd := by
  obtain ⟨h1, h | ⟨d, vs, h2, h3, h4, h5⟩⟩ := h
  · exact ⟨h1, .inl h⟩
  · exact ⟨h1, .inr ⟨d, vs, h2, h3, h4, h5.mono e⟩⟩
theorem RpX.hmono {C : Ct} {Hk H H' : Hp} {c : Nat} {ns : List Str} {ds : List D} {cls : Value} {dd : Option Addr} (e : Ex H H') (h : RpX C Hk H c ns ds cls dd) : RpX C Hk H' c ns ds cls dd := by
  obtain ⟨h1, h | ⟨d, vs, h2, h3, h4, h5⟩⟩ := h
  · exact ⟨h1, .inl h⟩
  · exact ⟨h1, .inr ⟨d, vs, h2, e _ _ h3, h4, h5⟩⟩
theorem RpX.other {C : Ct} {Hk H : Hp} {c : Nat} {ns : List Str} {ds : List D} {cls : Value} {dd : Option Addr} {b : Addr} {o : HO} (hb : ∃ u, H b = some u ∧ isOw u) (h : RpX C Hk H c ns ds cls dd) : RpX C Hk (upd H b o) c ns ds cls dd := by
  obtain ⟨h1, h | ⟨d, vs, h2, h3, h4, h5⟩⟩ := h
  · exact ⟨h1, .inl h⟩
  · refine ⟨h1, .inr ⟨d, vs, h2, ?_, h4, h5⟩⟩
    obtain ⟨u, hu, iu⟩ := hb
    have : d ≠ b := fun e => by subst e; rw [h3] at hu; cases hu; exact iu
    rw [upd_ne this]; exact h3

/-- more is known than before; what is new was not there for others -/
structure Kx (G Hk Hk' : Hp) : Prop where
  ex : Ex Hk Hk'
  new : ∀ b o, Hk' b = some o → Hk b = none → G b = none
theorem Kx.refl (G H : Hp) : Kx G H H := ⟨Ex.refl H, fun b o h n => by rw [n] at h; cases h⟩
theorem Kx.trans {G H H1 H2 : Hp} (a : Kx G H H1) (b : Kx G H1 H2) : Kx G H H2 := ⟨a.ex.trans b.ex, fun x o h n => by
  cases q : H1 x with
  | none => exact b.new x o h q
  | some u => exact a.new x u q n⟩

/-- the exception at hand; the address that slot 0 owns, if it is the caller's -/
structure Xa where
  x : Option (Addr × Value × Option Addr)
  p : Option Addr
structure RE (C : Ct) (xa : Xa) (G : Hp) (env : Env) (σ : L2.St) (Hk H : Hp) : Prop where
  len : env.length = σ.length
  hk : Ex Hk H
  g : Ex G H
  sh : ∀ (i : Nat) (d : D), env[i]? = some (.sh d) → ∃ v, σ[i]? = some (some v) ∧ Rp C Hk d v
  ow : ∀ (i : Nat) (d : D), env[i]? = some (.ow d) → ∃ a, σ[i]? = some (some (.ref a)) ∧ Hk a = none ∧ OwA C G Hk H a d
  inj : ∀ (i j : Nat) (d d' : D) (a : Addr), env[i]? = some (.ow d) → env[j]? = some (.ow d') → σ[i]? = some (some (.ref a)) → σ[j]? = some (some (.ref a)) → i = j
  xv : ∀ (i : Nat) (c : Nat) (ns : List Str) (ds : List D), env[i]? = some (.xv c ns ds) → ∃ a cls dd, xa.x = some (a, cls, dd) ∧ σ[i]? = some (some (.ref a)) ∧ RpX C Hk H c ns ds cls dd
  pn : ∀ (a : Addr) (d : D), xa.p = some a → env[0]? = some (.ow d) → σ[0]? = some (some (.ref a))

theorem set_get {α : Type} {l : List α} {i j : Nat} {x y : α} (h : (l.set i x)[j]? = some y) : (i = j ∧ i < l.length ∧ y = x) ∨ (i ≠ j ∧ l[j]? = some y) := by
  by_cases e : i = j
  · subst e
    by_cases hl : i < l.length
    · rw [List.getElem?_set_self hl] at h
      cases h
      exact .inl ⟨rfl, hl, rfl⟩
    · rw [List.getElem?_eq_none (by simpa using hl)] at h
      cases h
  · rw [List.getElem?_set_ne e] at h
    exact .inr ⟨e, h⟩
theorem set_id {α : Type} {l : List α} {k : Nat} {x : α} (h : l[k]? = some x) : l.set k x = l := by
  apply List.ext_getElem?
  intro j
  by_cases q : k = j
  · subst q
    obtain ⟨hl, _⟩ := List.getElem?_eq_some_iff.mp h
    rw [List.getElem?_set_self hl, h]
  · rw [List.getElem?_set_ne q]
section
variable {C : Ct} {xa : Xa} {G : Hp} {env : Env} {σ : L2.St} {Hk H H' : Hp}
/-- the heap grows -/
theorem RE.ext (r : RE C xa G env σ Hk H) (e : Ex H H') : RE C xa G env σ Hk H' :=
  ⟨r.len, r.hk.trans e, r.g.trans e, r.sh, fun i d h => by
    obtain ⟨a, h1, h2, h3⟩ := r.ow i d h
    exact ⟨a, h1, h2, h3.hmono e⟩, r.inj, fun i c ns ds h => by
    obtain ⟨a, cls, dd, h1, h2, h3⟩ := r.xv i c ns ds h
    exact ⟨a, cls, dd, h1, h2, h3.hmono e⟩, r.pn⟩
/-- more is known, of nothing that is owned -/
theorem RE.know {Hk' : Hp} (r : RE C xa G env σ Hk H) (e : Ex Hk Hk') (e2 : Ex Hk' H) (hn : ∀ (i : Nat) (d : D) (a : Addr), env[i]? = some (.ow d) → σ[i]? = some (some (.ref a)) → Hk' a = none) : RE C xa G env σ Hk' H :=
  ⟨r.len, e2, r.g, fun i d h => by
    obtain ⟨v, h1, h2⟩ := r.sh i d h
    exact ⟨v, h1, h2.mono e⟩, fun i d h => by
    obtain ⟨a, h1, h2, h3⟩ := r.ow i d h
    exact ⟨a, h1, hn i d a h h1, h3.kmono e⟩, r.inj, fun i c ns ds h => by
    obtain ⟨a, cls, dd, h1, h2, h3⟩ := r.xv i c ns ds h
    exact ⟨a, cls, dd, h1, h2, h3.kmono e⟩, r.pn⟩
/-- an owned address is in H -/
theorem RE.owAt (r : RE C xa G env σ Hk H) {i : Nat} {d : D} {a : Addr} (h : env[i]? = some (.ow d)) (hs : σ[i]? = some (some (.ref a))) : Hk a = none ∧ OwA C G Hk H a d := by
  obtain ⟨b, h1, h2, h3⟩ := r.ow i d h
  rw [hs] at h1
  cases h1
  exact ⟨h2, h3⟩
/-- a slot is forgotten -/
theorem RE.drop (r : RE C xa G env σ Hk H) (k : Nat) : RE C xa G (env.set k .no) σ Hk H :=
  ⟨by rw [List.length_set]; exact r.len, r.hk, r.g,
   fun i d h => by
    rcases set_get h with ⟨_, _, e⟩ | ⟨_, h⟩
    · cases e
    · exact r.sh i d h,
   fun i d h => by
    rcases set_get h with ⟨_, _, e⟩ | ⟨_, h⟩
    · cases e
    · exact r.ow i d h,
   fun i j d d' a h1 h2 s1 s2 => by
    rcases set_get h1 with ⟨_, _, e⟩ | ⟨_, h1⟩
    · cases e
    · rcases set_get h2 with ⟨_, _, e⟩ | ⟨_, h2⟩
      · cases e
      · exact r.inj i j d d' a h1 h2 s1 s2,
   fun i c ns ds h => by
    rcases set_get h with ⟨_, _, e⟩ | ⟨_, h⟩
    · cases e
    · exact r.xv i c ns ds h,
   fun a d hp h => by
    rcases set_get h with ⟨_, _, e⟩ | ⟨_, h⟩
    · cases e
    · exact r.pn a d hp h⟩
/-- the slot's value itself may then be anything -/
theorem RE.dropSet (r : RE C xa G env σ Hk H) (k : Nat) (o : Option V) : RE C xa G (env.set k .no) (σ.set k o) Hk H := by
  have r := r.drop k
  have ne : ∀ {i : Nat} {x : S}, (env.set k .no)[i]? = some x → x ≠ .no → k ≠ i := fun {i x} h hx e => by
    rcases set_get h with ⟨_, _, e2⟩ | ⟨e2, _⟩
    · exact hx e2
    · exact e2 e
  refine ⟨by rw [List.length_set]; simpa using r.len, r.hk, r.g, fun i d h => ?_, fun i d h => ?_, fun i j d d' a h1 h2 s1 s2 => ?_, fun i c ns ds h => ?_, fun a d hp h => ?_⟩
  · rw [List.getElem?_set_ne (ne h (fun e => by cases e))]; exact r.sh i d h
  · rw [List.getElem?_set_ne (ne h (fun e => by cases e))]; exact r.ow i d h
  · rw [List.getElem?_set_ne (ne h1 (fun e => by cases e))] at s1
    rw [List.getElem?_set_ne (ne h2 (fun e => by cases e))] at s2
    exact r.inj i j d d' a h1 h2 s1 s2
  · rw [List.getElem?_set_ne (ne h (fun e => by cases e))]; exact r.xv i c ns ds h
  · rw [List.getElem?_set_ne (ne h (fun e => by cases e))]; exact r.pn a d hp h
/-- a slot's value is another, shared -/
theorem RE.setSh (r : RE C xa G env σ Hk H) {k : Nat} {d : D} {v : V} (q : Rp C Hk d v) : RE C xa G (env.set k (.sh d)) (σ.set k (some v)) Hk H := by
  have r0 := r.dropSet k (some v)
  have el : (env.set k (.sh d)) = (env.set k .no).set k (.sh d) := by rw [List.set_set]
  rw [el]
  refine ⟨by simpa using r.len, r.hk, r.g, fun i x h => ?_, fun i x h => ?_, fun i j x x' a h1 h2 s1 s2 => ?_, fun i c ns ds h => ?_, fun a x hp h => ?_⟩
  · rcases set_get h with ⟨e, hl, e2⟩ | ⟨e, h⟩
    · subst e
      cases e2
      refine ⟨v, ?_, q⟩
      rw [List.getElem?_set_self]
      rw [← r.len]
      simpa using hl
    · exact r0.sh i x h
  · rcases set_get h with ⟨_, _, e⟩ | ⟨e, h⟩
    · cases e
    · exact r0.ow i x h
  · rcases set_get h1 with ⟨_, _, e⟩ | ⟨e1, h1⟩
    · cases e
    · rcases set_get h2 with ⟨_, _, e⟩ | ⟨e2, h2⟩
      · cases e
      · exact r0.inj i j x x' a h1 h2 s1 s2
  · rcases set_get h with ⟨_, _, e⟩ | ⟨e, h⟩
    · cases e
    · exact r0.xv i c ns ds h
  · rcases set_get h with ⟨_, _, e⟩ | ⟨e, h⟩
    · cases e
    · exact r0.pn a x hp h
/-- .. owned, at an address that no slot owns -/
theorem RE.setOw (r : RE C xa G env σ Hk H) {k : Nat} {d : D} {a : Addr} (h0 : k ≠ 0 ∨ xa.p = none) (hk : Hk a = none) (q : OwA C G Hk H a d) (hn : ∀ (i : Nat) (d' : D), env[i]? = some (.ow d') → σ[i]? ≠ some (some (.ref a))) : RE C xa G (env.set k (.ow d)) (σ.set k (some (.ref a))) Hk H := by
  have r0 := r.dropSet k (some (.ref a))
  have el : (env.set k (.ow d)) = (env.set k .no).set k (.ow d) := by rw [List.set_set]
  have hn0 : ∀ (i : Nat) (d' : D), (env.set k .no)[i]? = some (.ow d') → (σ.set k (some (.ref a)))[i]? ≠ some (some (.ref a)) := fun i d' h => by
    rcases set_get h with ⟨_, _, e⟩ | ⟨e, h⟩
    · cases e
    · rw [List.getElem?_set_ne e]; exact hn i d' h
  rw [el]
  refine ⟨by simpa using r.len, r.hk, r.g, fun i x h => ?_, fun i x h => ?_, fun i j x x' b h1 h2 s1 s2 => ?_, fun i c ns ds h => ?_, fun b x hp h => ?_⟩
  · rcases set_get h with ⟨_, _, e⟩ | ⟨e, h⟩
    · cases e
    · exact r0.sh i x h
  · rcases set_get h with ⟨e, hl, e2⟩ | ⟨e, h⟩
    · subst e
      cases e2
      refine ⟨a, ?_, hk, q⟩
      rw [List.getElem?_set_self]
      rw [← r.len]
      simpa using hl
    · exact r0.ow i x h
  · rcases set_get h1 with ⟨e1, l1, _⟩ | ⟨e1, h1⟩
    · rcases set_get h2 with ⟨e2, _, _⟩ | ⟨e2, h2⟩
      · exact e1.symm.trans e2
      · subst e1
        rw [List.getElem?_set_self (by rw [← r.len]; simpa using l1)] at s1
        cases s1
        exact absurd s2 (hn0 j x' h2)
    · rcases set_get h2 with ⟨e2, l2, _⟩ | ⟨e2, h2⟩
      · subst e2
        rw [List.getElem?_set_self (by rw [← r.len]; simpa using l2)] at s2
        cases s2
        exact absurd s1 (hn0 i x h1)
      · exact r0.inj i j x x' b h1 h2 s1 s2
  · rcases set_get h with ⟨_, _, e⟩ | ⟨e, h⟩
    · cases e
    · exact r0.xv i c ns ds h
  · rcases set_get h with ⟨e, _, _⟩ | ⟨e, h⟩
    · rcases h0 with h0 | h0
      · exact absurd e h0
      · rw [h0] at hp; cases hp
    · exact r0.pn b x hp h
/-- what is owned at a becomes known -/
theorem own_known {a : Addr} {d : D} (e : Ex Hk H) (h : OwA C G Hk H a d) : ∃ Hk', Kx G Hk Hk' ∧ Ex Hk' H ∧ Rp C Hk' d (.ref a) ∧ ∀ b o, Hk' b = some o → Hk b = none → b = a ∨ o = .own a := by
  cases d with
  | lst xs =>
    obtain ⟨g, vs, h1, h2⟩ := h
    have e1 : Ex Hk (upd Hk a (.lst vs)) := fun b o hb => by
      by_cases q : b = a
      · subst q; rw [upd_same]; have := e _ _ hb; rw [h1] at this; exact this
      · rw [upd_ne q]; exact hb
    have nw : ∀ b o, upd Hk a (.lst vs) b = some o → Hk b = none → b = a := fun b o hb hn => by
      by_cases q : b = a
      · exact q
      · rw [upd_ne q, hn] at hb; cases hb
    refine ⟨upd Hk a (.lst vs), ⟨e1, fun b o hb hn => by rw [nw b o hb hn]; exact g⟩, Ex.updB e h1, ?_, fun b o hb hn => .inl (nw b o hb hn)⟩
    unfold Rp
    exact ⟨a, vs, rfl, upd_same, h2.mono e1⟩
  | ins c ns xs =>
    obtain ⟨g, dx, vs, h1, h2, h3, h4, h5⟩ := h
    have ne : dx ≠ a := fun q => by subst q; rw [h1] at h2; cases h2
    have e1 : Ex Hk (upd (upd Hk dx (.own a)) a (.ins (C.cm c) dx (ns.zip vs))) := fun b o hb => by
      by_cases q : b = a
      · subst q; rw [upd_same]; have := e _ _ hb; rw [h1] at this; exact this
      · rw [upd_ne q]
        by_cases q2 : b = dx
        · subst q2; rw [upd_same]; have := e _ _ hb; rw [h2] at this; exact this
        · rw [upd_ne q2]; exact hb
    have nw : ∀ b o, upd (upd Hk dx (.own a)) a (.ins (C.cm c) dx (ns.zip vs)) b = some o → Hk b = none → b = a ∨ (b = dx ∧ o = .own a) := fun b o hb hn => by
      by_cases q : b = a
      · exact .inl q
      · rw [upd_ne q] at hb
        by_cases q2 : b = dx
        · subst q2; rw [upd_same] at hb; cases hb; exact .inr ⟨rfl, rfl⟩
        · rw [upd_ne q2, hn] at hb; cases hb
    refine ⟨_, ⟨e1, fun b o hb hn => ?_⟩, Ex.updB (Ex.updB e h2) h1, ?_, fun b o hb hn => ?_⟩
    · rcases nw b o hb hn with q | ⟨q, _⟩
      · rw [q]; exact g
      · rw [q]; exact h5
    · unfold Rp
      exact ⟨a, dx, vs, rfl, upd_same, by rw [upd_ne ne]; exact upd_same, h3, h4.mono e1⟩
    · rcases nw b o hb hn with q | ⟨_, q⟩
      · exact .inl q
      · exact .inr q
  | dic ks xs =>
    obtain ⟨g, vs, h1, h2, h3⟩ := h
    have e1 : Ex Hk (upd Hk a (.dT (kvT ks vs))) := fun b o hb => by
      by_cases q : b = a
      · subst q; rw [upd_same]; have := e _ _ hb; rw [h1] at this; exact this
      · rw [upd_ne q]; exact hb
    have nw : ∀ b o, upd Hk a (.dT (kvT ks vs)) b = some o → Hk b = none → b = a := fun b o hb hn => by
      by_cases q : b = a
      · exact q
      · rw [upd_ne q, hn] at hb; cases hb
    refine ⟨upd Hk a (.dT (kvT ks vs)), ⟨e1, fun b o hb hn => by rw [nw b o hb hn]; exact g⟩, Ex.updB e h1, ?_, fun b o hb hn => .inl (nw b o hb hn)⟩
    unfold Rp
    exact ⟨a, vs, rfl, upd_same, h2, h3.mono e1⟩
  | _ => exact h.elim
/-- an object that no slot owns, owned at a, becomes shared -/
theorem RE.settle (r : RE C xa G env σ Hk H) {a : Addr} {d : D} (q : OwA C G Hk H a d) (hn : ∀ (i : Nat) (d' : D), env[i]? = some (.ow d') → σ[i]? ≠ some (some (.ref a))) : ∃ Hk', Kx G Hk Hk' ∧ RE C xa G env σ Hk' H ∧ Rp C Hk' d (.ref a) := by
  obtain ⟨Hk', e1, e2, hr, nw⟩ := own_known r.hk q
  refine ⟨Hk', e1, r.know e1.ex e2 fun i x b hi hb => ?_, hr⟩
  obtain ⟨g1, g2⟩ := r.owAt hi hb
  cases z : Hk' b with
  | none => rfl
  | some o =>
    rcases nw b o z g1 with y | y
    · subst y; exact absurd hb (hn i x hi)
    · obtain ⟨u, hu, iu⟩ := g2.at
      rw [e2 b o z] at hu
      subst y
      cases hu
      exact iu.elim
/-- a slot's object becomes shared -/
theorem RE.freeze (r : RE C xa G env σ Hk H) {k : Nat} {d : D} (h : env[k]? = some (.ow d)) : ∃ Hk', Kx G Hk Hk' ∧ RE C xa G (env.set k (.sh d)) σ Hk' H ∧ ∃ v, σ[k]? = some (some v) ∧ Rp C Hk' d v := by
  obtain ⟨a, h1, h2, h3⟩ := r.ow k d h
  have r1 := r.drop k
  obtain ⟨Hk', e1, r2, hr⟩ := r1.settle (a := a) (d := d) h3 fun i d' hi hs => by
    rcases set_get hi with ⟨_, _, e⟩ | ⟨ne, hi⟩
    · cases e
    · exact ne (r.inj k i d d' a h hi h1 hs)
  refine ⟨Hk', e1, ?_, _, h1, hr⟩
  have hs := r2.setSh (k := k) hr
  rw [List.set_set, set_id h1] at hs
  exact hs
/-- the object that slot k owns changes -/
theorem RE.mut (r : RE C xa G env σ Hk H) {k : Nat} {d d' : D} {a : Addr} {o : HO} (h : env[k]? = some (.ow d)) (hs : σ[k]? = some (some (.ref a))) (q : OwA C G Hk (upd H a o) a d') : RE C xa G (env.set k (.ow d')) σ Hk (upd H a o) := by
  obtain ⟨h2, h4⟩ := r.owAt h hs
  have at4 := h4.at
  refine ⟨by rw [List.length_set]; exact r.len, r.hk.mut h2, r.g.mut h4.g, fun i x hi => ?_, fun i x hi => ?_, fun i j x x' b h1 h2 s1 s2 => ?_, fun i c ns ds hi => ?_, fun b x hp hi => ?_⟩
  · rcases set_get hi with ⟨_, _, e⟩ | ⟨_, hi⟩
    · cases e
    · exact r.sh i x hi
  · rcases set_get hi with ⟨e, _, e2⟩ | ⟨ne, hi⟩
    · subst e
      cases e2
      exact ⟨a, hs, h2, q⟩
    · obtain ⟨b, g1, g2, g4⟩ := r.ow i x hi
      refine ⟨b, g1, g2, g4.other at4 fun e => ?_⟩
      subst e
      exact ne (r.inj k i d x b h hi hs g1)
  · have f : ∀ {m : Nat} {y : D}, (env.set k (.ow d'))[m]? = some (.ow y) → ∃ y', env[m]? = some (.ow y') := fun {m y} hm => by
      rcases set_get hm with ⟨e, _, _⟩ | ⟨_, hm⟩
      · subst e; exact ⟨d, h⟩
      · exact ⟨y, hm⟩
    obtain ⟨y1, k1⟩ := f h1
    obtain ⟨y2, k2⟩ := f h2
    exact r.inj i j y1 y2 b k1 k2 s1 s2
  · rcases set_get hi with ⟨_, _, e⟩ | ⟨_, hi⟩
    · cases e
    · obtain ⟨b, cls, dd, g1, g2, g3⟩ := r.xv i c ns ds hi
      exact ⟨b, cls, dd, g1, g2, g3.other at4⟩
  · rcases set_get hi with ⟨e, _, _⟩ | ⟨_, hi⟩
    · subst e
      exact r.pn b d hp h
    · exact r.pn b x hp hi
end
end VM

set_option Elab.async false
set_option linter.all false
set_option maxRecDepth 100000
set_option maxHeartbeats 1000000
/-! VM 2: what an expression, a test, a statement computes; names, constants, operators -/
namespace VM
open PySem PySem.Spec PyProof.Rows L2

inductive Tk where
  | val (d : D) | slot (k : Nat) | new (d : D)
inductive Rs (α : Type) where
  | ok (a : α) (e : Env) | ex (c : Nat) (ns : List Str) (ds : List D) (e : Env) | bad
abbrev M (α : Type) := Env → Rs α
def mBind {α β : Type} (m : M α) (f : α → M β) : M β := fun env => match m env with
  | .ok a e => f a e
  | .ex c ns ds e => .ex c ns ds e
  | .bad => .bad
def mOf {α : Type} (o : Option α) : M α := fun env => match o with
  | some a => .ok a env
  | none => .bad
/-- a new object is shared from now on -/
def Tk.settle : Tk → Tk
  | .new d => .val d
  | t => t
def look (t : Tk) (env : Env) : Option D := match t with
  | .val d => some d
  | .new d => some d
  | .slot k => match env[k]? with
    | some (.sh d) => some d
    | some (.ow d) => some d
    | _ => none
/-- the value, shared from now on -/
def force (t : Tk) : M D := fun env => match t with
  | .val d => .ok d env
  | .new d => .ok d env
  | .slot k => match env[k]? with
    | some (.sh d) => .ok d env
    | some (.ow d) => .ok d (env.set k (.sh d))
    | _ => .bad

/-- what stands besides: the classes' addresses, the exception at hand, what is wished of exceptions -/
structure Y where
  cm : Nat → Addr
  xa : Xa
  W : WX
abbrev Y.ct (y : Y) (X : Cx) : Ct := ⟨X.K, y.cm⟩

/-- a token's value -/
def RT (C : Ct) (G : Hp) (env : Env) (σ : L2.St) (Hk H : Hp) (t : Tk) (v : V) : Prop := match t with
  | .val d => Rp C Hk d v
  | .slot k => σ[k]? = some (some v)
  | .new d => ∃ a, v = .ref a ∧ Hk a = none ∧ OwA C G Hk H a d ∧ ∀ (i : Nat) (d' : D), env[i]? = some (.ow d') → σ[i]? ≠ some (some (.ref a))
/-- a settled token -/
def RV (C : Ct) (σ : L2.St) (Hk : Hp) (t : Tk) (v : V) : Prop := match t with
  | .val d => Rp C Hk d v
  | .slot k => σ[k]? = some (some v)
  | .new d => False

section
variable (C : Ct) (xa : Xa) (W : WX) (G : Hp) (σ : L2.St) (Hk : Hp)
/-- an end by an exception -/
def PoX (c : Nat) (ns : List Str) (ds : List D) (e : Env) : Prop := ∀ cls dd Hk' H', Kx G Hk Hk' → RE C xa G e σ Hk' H' → RpX C Hk' H' c ns ds cls dd → W cls dd σ H'
def PoE (r : Rs Tk) (Q : VK) : Prop := match r with
  | .ok t e => ∀ v Hk' H', Kx G Hk Hk' → RE C xa G e σ Hk' H' → RT C G e σ Hk' H' t v → Q v H'
  | .ex c ns ds e => PoX C xa W G σ Hk c ns ds e
  | .bad => False
def PoB (r : Rs Bool) (Q : Bool → Hp → Prop) : Prop := match r with
  | .ok b e => ∀ Hk' H', Kx G Hk Hk' → RE C xa G e σ Hk' H' → Q b H'
  | .ex c ns ds e => PoX C xa W G σ Hk c ns ds e
  | .bad => False
inductive RVs (C : Ct) (σ : L2.St) (Hk : Hp) : List Tk → List V → Prop
  | nil : RVs C σ Hk [] []
  | cons {t : Tk} {v : V} {ts : List Tk} {vs : List V} (h : RV C σ Hk t v) (r : RVs C σ Hk ts vs) : RVs C σ Hk (t :: ts) (v :: vs)
def PoA (r : Rs (List Tk)) (Q : List V → Hp → Prop) : Prop := match r with
  | .ok ts e => ∀ vs Hk' H', Kx G Hk Hk' → RE C xa G e σ Hk' H' → RVs C σ Hk' ts vs → Q vs H'
  | .ex c ns ds e => PoX C xa W G σ Hk c ns ds e
  | .bad => False
end
section
variable (X : Cx) (y : Y)
def tE (m : M Tk) : TE := fun σ H Q => ∃ env Hk G, RE (y.ct X) y.xa G env σ Hk H ∧ PoE (y.ct X) y.xa y.W G σ Hk (m env) Q
def tB (m : M Bool) : TT := fun σ H Q => ∃ env Hk G, RE (y.ct X) y.xa G env σ Hk H ∧ PoB (y.ct X) y.xa y.W G σ Hk (m env) Q
def tA (m : M (List Tk)) : TA := fun σ H Q => ∃ env Hk G, RE (y.ct X) y.xa G env σ Hk H ∧ PoA (y.ct X) y.xa y.W G σ Hk (m env) Q
structure PX (e : Expr) (m : M Tk) : Prop where
  pe : PE X e (tE X y m)
structure PB (e : Expr) (m : M Bool) : Prop where
  pt : PT X e (tB X y m)
structure PAs (es : List Expr) (m : M (List Tk)) : Prop where
  pa : PA X es (tA X y m)
end
theorem PE_imp {X : Cx} {e : Expr} {t t' : TE} (h : PE X e t) (f : ∀ σ H Q, t' σ H Q → t σ H Q) : PE X e t' := ⟨fun pins s σ H Q I q => h.run pins s σ H Q I (f σ H Q q)⟩
theorem PT_imp {X : Cx} {e : Expr} {t t' : TT} (h : PT X e t) (f : ∀ σ H Q, t' σ H Q → t σ H Q) : PT X e t' := ⟨fun pins s σ H Q I q => h.run pins s σ H Q I (f σ H Q q)⟩
theorem PA_imp {X : Cx} {es : List Expr} {t t' : TA} (h : PA X es t) (f : ∀ σ H Q, t' σ H Q → t σ H Q) : PA X es t' := ⟨fun pos pins s σ H Q I q => h.run pos pins s σ H Q I (f σ H Q q)⟩
theorem PS_imp {X : Cx} {st : Stmt} {t t' : TS} (h : PS X st t) (f : ∀ D σ H, t' D σ H → t D σ H) : PS X st t' := ⟨fun pins s σ H D I q => h.run pins s σ H D I (f D σ H q)⟩
theorem PSs_imp {X : Cx} {st : List Stmt} {t t' : TS} (h : PSs X st t) (f : ∀ D σ H, t' D σ H → t D σ H) : PSs X st t' := ⟨fun pins s σ H D I q => h.run pins s σ H D I (f D σ H q)⟩

/-! ### from one state to the next -/
section
variable {C : Ct} {xa : Xa} {W : WX} {G : Hp} {env : Env} {σ : L2.St} {Hk Hk' H H' : Hp} {t : Tk} {v : V}
theorem PoX.kx {c : Nat} {ns : List Str} {ds : List D} {e : Env} (k : Kx G Hk Hk') (h : PoX C xa W G σ Hk c ns ds e) : PoX C xa W G σ Hk' c ns ds e :=
  fun cls dd H2 H' k2 => h cls dd H2 H' (k.trans k2)
theorem PoE.kx {r : Rs Tk} {Q : VK} (k : Kx G Hk Hk') (h : PoE C xa W G σ Hk r Q) : PoE C xa W G σ Hk' r Q := by
  cases r with
  | ok t e => exact fun v H2 H' k2 => h v H2 H' (k.trans k2)
  | ex c ns ds e => exact PoX.kx k h
  | bad => exact h
theorem PoB.kx {r : Rs Bool} {Q : Bool → Hp → Prop} (k : Kx G Hk Hk') (h : PoB C xa W G σ Hk r Q) : PoB C xa W G σ Hk' r Q := by
  cases r with
  | ok t e => exact fun H2 H' k2 => h H2 H' (k.trans k2)
  | ex c ns ds e => exact PoX.kx k h
  | bad => exact h
theorem PoA.kx {r : Rs (List Tk)} {Q : List V → Hp → Prop} (k : Kx G Hk Hk') (h : PoA C xa W G σ Hk r Q) : PoA C xa W G σ Hk' r Q := by
  cases r with
  | ok t e => exact fun v H2 H' k2 => h v H2 H' (k.trans k2)
  | ex c ns ds e => exact PoX.kx k h
  | bad => exact h
theorem RV.kx (k : Kx G Hk Hk') (h : RV C σ Hk t v) : RV C σ Hk' t v := by
  cases t with
  | val d => exact Rp.mono k.ex h
  | slot i => exact h
  | new d => exact h.elim
theorem RVs.kx (k : Kx G Hk Hk') {ts : List Tk} {vs : List V} (h : RVs C σ Hk ts vs) : RVs C σ Hk' ts vs := by
  induction h with
  | nil => exact .nil
  | cons h _ ih => exact .cons (h.kx k) ih
/-- settled -/
theorem RT.settle (r : RE C xa G env σ Hk H) (h : RT C G env σ Hk H t v) : ∃ Hk', Kx G Hk Hk' ∧ RE C xa G env σ Hk' H ∧ RV C σ Hk' t.settle v := by
  cases t with
  | val d => exact ⟨Hk, Kx.refl _ _, r, h⟩
  | slot k => exact ⟨Hk, Kx.refl _ _, r, h⟩
  | new d =>
    obtain ⟨a, rfl, h1, h2, h3⟩ := h
    exact r.settle h2 h3
/-- what a token shows -/
theorem RT.look (r : RE C xa G env σ Hk H) (h : RT C G env σ Hk H t v) {d : D} (e : look t env = some d) : Pk C Hk H d v := by
  cases t with
  | val x => cases e; exact .inl h
  | new x =>
    cases e
    obtain ⟨a, rfl, h1, h2, h3⟩ := h
    exact .inr ⟨a, G, rfl, h2⟩
  | slot k =>
    have h : σ[k]? = some (some v) := h
    unfold VM.look at e
    dsimp only at e
    split at e
    · next x hx =>
      cases e
      obtain ⟨v', h1, h2⟩ := r.sh k _ hx
      rw [h] at h1
      cases h1
      exact .inl h2
    · next x hx =>
      cases e
      obtain ⟨a, h1, h2, h3⟩ := r.ow k _ hx
      rw [h] at h1
      cases h1
      exact .inr ⟨a, G, rfl, h3⟩
    · cases e
theorem RV.rt (h : RV C σ Hk t v) : RT C G env σ Hk H t v := by
  cases t with
  | val d => exact h
  | slot i => exact h
  | new d => exact h.elim
/-- forced -/
theorem RT.force (r : RE C xa G env σ Hk H) (h : RT C G env σ Hk H t v) {d : D} {e : Env} (q : force t env = .ok d e) : ∃ Hk', Kx G Hk Hk' ∧ RE C xa G e σ Hk' H ∧ Rp C Hk' d v := by
  cases t with
  | val x => cases q; exact ⟨Hk, Kx.refl _ _, r, h⟩
  | new x =>
    cases q
    obtain ⟨a, rfl, h1, h2, h3⟩ := h
    exact r.settle h2 h3
  | slot k =>
    have h : σ[k]? = some (some v) := h
    unfold VM.force at q
    dsimp only at q
    split at q
    · next x hx =>
      cases q
      obtain ⟨v', h1, h2⟩ := r.sh k _ hx
      rw [h] at h1
      cases h1
      exact ⟨Hk, Kx.refl _ _, r, h2⟩
    · next x hx =>
      cases q
      obtain ⟨Hk', k1, r1, v', h1, h2⟩ := r.freeze hx
      rw [h] at h1
      cases h1
      exact ⟨Hk', k1, r1, h2⟩
    · cases q
theorem force_cases (t : Tk) (env : Env) : (∃ d e, force t env = .ok d e) ∨ force t env = .bad := by
  cases t with
  | val x => exact .inl ⟨_, _, rfl⟩
  | new x => exact .inl ⟨_, _, rfl⟩
  | slot k =>
    unfold force
    dsimp only
    split
    · exact .inl ⟨_, _, rfl⟩
    · exact .inl ⟨_, _, rfl⟩
    · exact .inr rfl
end

/-- what an operation gives: a value (known, or of new objects), or a new object -/
def Res (C : Ct) (Hk H : Hp) (t : Tk) (v : V) (H' : Hp) : Prop := Ex H H' ∧ match t with
  | .val d => ∃ Hk', Kx H Hk Hk' ∧ Ex Hk' H' ∧ Rp C Hk' d v
  | .new d => ∃ a, v = .ref a ∧ H a = none ∧ OwA C H Hk H' a d
  | .slot _ => False
section
variable {C : Ct} {xa : Xa} {W : WX} {G : Hp} {env : Env} {σ : L2.St} {Hk Hk' H H' : Hp} {t : Tk} {v : V}
theorem RE.res (r : RE C xa G env σ Hk H) (h : Res C Hk H t v H') : ∃ Hk', Kx G Hk Hk' ∧ RE C xa G env σ Hk' H' ∧ RT C G env σ Hk' H' t v := by
  obtain ⟨e, h⟩ := h
  cases t with
  | val d =>
    obtain ⟨Hk', k, e2, h⟩ := h
    refine ⟨Hk', ⟨k.ex, fun b o h1 h2 => r.g.back (k.new b o h1 h2)⟩, (r.ext e).know k.ex e2 fun i d a hi hs => ?_, h⟩
    obtain ⟨g1, g2⟩ := r.owAt hi hs
    cases z : Hk' a with
    | none => rfl
    | some o =>
      obtain ⟨u, hu, _⟩ := g2.at
      rw [k.new a o z g1] at hu
      cases hu
  | slot k => exact h.elim
  | new d =>
    obtain ⟨a, rfl, h1, h2⟩ := h
    refine ⟨Hk, Kx.refl _ _, r.ext e, a, rfl, r.hk.back h1, h2.gmono r.g, fun i d' hi hs => ?_⟩
    obtain ⟨g1, g2⟩ := r.owAt hi hs
    obtain ⟨u, hu, _⟩ := g2.at
    rw [h1] at hu
    cases hu
theorem res_flat {d : D} (f : Rp C Hk d v) (e : Ex Hk H) : Res C Hk H (.val d) v H := ⟨Ex.refl _, Hk, Kx.refl _ _, e, f⟩
theorem res_lst {xs : List D} {vs : List V} {p : Addr} (hp : H p = none) (h : RpL C Hk xs vs) : Res C Hk H (.new (.lst xs)) (.ref p) (upd H p (.lst vs)) :=
  ⟨Ex.new hp, p, rfl, hp, hp, vs, upd_same, h⟩
theorem res_tup {xs : List D} {vs : List V} {p : Addr} (e : Ex Hk H) (hp : H p = none) (h : RpL C Hk xs vs) : Res C Hk H (.val (.tup xs)) (.ref p) (upd H p (.tup vs)) := by
  have e1 : Ex Hk (upd Hk p (.tup vs)) := Ex.new (e.back hp)
  refine ⟨Ex.new hp, upd Hk p (.tup vs), ⟨e1, fun b o h1 h2 => ?_⟩, Ex.updB (e.trans (Ex.new hp)) upd_same, ?_⟩
  · by_cases q : b = p
    · rw [q]; exact hp
    · rw [upd_ne q, h2] at h1; cases h1
  · unfold Rp
    exact ⟨p, vs, rfl, upd_same, h.mono e1⟩
end

/-! ### names and constants -/
section
variable {X : Cx} {y : Y}
def mVar (k : Nat) : M Tk := fun env => match env[k]? with
  | some .no => .bad
  | none => .bad
  | some _ => .ok (.slot k) env
theorem px_var {i : Nat} {x : Str} {pos : Pos} (h : PE X (.Name x pos) (tVar i)) : PX X y (.Name x pos) (mVar i) := by
  refine ⟨PE_imp h fun σ H Q ⟨env, Hk, G, r, q⟩ => ?_⟩
  unfold mVar at q
  have fin : ∀ v, σ[i]? = some (some v) → PoE (y.ct X) y.xa y.W G σ Hk (.ok (.slot i) env) Q → tVar i σ H Q := fun v hv q => ⟨v, hv, q v Hk H (Kx.refl _ _) r hv⟩
  cases e : env[i]? with
  | none => rw [e] at q; exact q.elim
  | some s =>
    rw [e] at q
    cases s with
    | no => exact q.elim
    | sh d => obtain ⟨v, h1, _⟩ := r.sh i d e; exact fin v h1 q
    | ow d => obtain ⟨a, h1, _⟩ := r.ow i d e; exact fin _ h1 q
    | xv c ns ds => obtain ⟨a, cls, dd, _, h1, _⟩ := r.xv i c ns ds e; exact fin _ h1 q
def mC (d : D) : M Tk := fun env => .ok (.val d) env
theorem px_c {e : Expr} {d : D} {v : V} (h : PE X e (tC v)) (r0 : ∀ H, Rp (y.ct X) H d v) : PX X y e (mC d) :=
  ⟨PE_imp h fun σ H Q ⟨env, Hk, G, r, q⟩ => q v Hk H (Kx.refl _ _) r (r0 Hk)⟩
theorem px_int {i : Int} {j pos} : PX X y (.Constant (.int i) j pos) (mC (.int i)) := px_c pe_int fun _ => rp_int
theorem px_bl {b : Bool} {j pos} : PX X y (.Constant (.bool b) j pos) (mC (.bl b)) := px_c pe_bl fun _ => rp_bl
theorem px_non {j pos} : PX X y (.Constant .none j pos) (mC .non) := px_c pe_non fun _ => rp_non
theorem px_str {x : Str} {j pos} : PX X y (.Constant (.str x) j pos) (mC (.str x)) := px_c pe_str fun _ => rp_str

/-! ### operators of values -/
/-- an operation's reading serves f -/
def Op2 (X : Cx) (y : Y) (f : D → D → Option Tk) (r : R2) : Prop := ∀ (Hk H : Hp) (a b : D) (v w : V) (t : Tk) (Q : VK), Ex Hk H → f a b = some t → Pk (y.ct X) Hk H a v → Pk (y.ct X) Hk H b w → (∀ z H', Res (y.ct X) Hk H t z H' → Q z H') → r v w H Q
def Op1 (X : Cx) (y : Y) (f : D → Option Tk) (r : V → Hp → VK → Prop) : Prop := ∀ (Hk H : Hp) (a : D) (v : V) (t : Tk) (Q : VK), Ex Hk H → f a = some t → Pk (y.ct X) Hk H a v → (∀ z H', Res (y.ct X) Hk H t z H' → Q z H') → r v H Q
def OpN (X : Cx) (y : Y) (f : List D → Option Tk) (r : List V → Hp → VK → Prop) : Prop := ∀ (Hk H : Hp) (ds : List D) (vs : List V) (t : Tk) (Q : VK), Ex Hk H → f ds = some t → Paired (fun d v => Pk (y.ct X) Hk H d v) ds vs → (∀ z H', Res (y.ct X) Hk H t z H' → Q z H') → r vs H Q
def mLook2 (f : D → D → Option Tk) (t1 t2 : Tk) : M Tk := fun env => match look t1 env, look t2 env with
  | some a, some b => mOf (f a b) env
  | _, _ => .bad
def mBin (f : D → D → Option Tk) (m1 m2 : M Tk) : M Tk := mBind m1 fun t1 => mBind m2 fun t2 => mLook2 f t1.settle t2
def mLook1 (f : D → Option Tk) (t : Tk) : M Tk := fun env => match look t env with
  | some a => mOf (f a) env
  | none => .bad
def mUn (f : D → Option Tk) (m : M Tk) : M Tk := mBind m (mLook1 f)
/-- the first of two: its value, then what the second makes of it -/
theorem po_bind {m : M Tk} {f : Tk → M Tk} {env : Env} {G : Hp} {σ : L2.St} {Hk : Hp} {Q R : VK} (q : PoE (y.ct X) y.xa y.W G σ Hk (mBind m f env) Q)
    (k : ∀ t e v Hk' H1, Kx G Hk Hk' → RE (y.ct X) y.xa G e σ Hk' H1 → RT (y.ct X) G e σ Hk' H1 t v → PoE (y.ct X) y.xa y.W G σ Hk' (f t e) Q → R v H1) : PoE (y.ct X) y.xa y.W G σ Hk (m env) R := by
  unfold mBind at q
  cases e : m env with
  | ok t e1 => rw [e] at q; exact fun v Hk' H' k' r' h' => k t e1 v Hk' H' k' r' h' (q.kx k')
  | ex c ns ds e1 => rw [e] at q; exact q
  | bad => rw [e] at q; exact q
theorem mLook2_go {f : D → D → Option Tk} {r : R2} (o : Op2 X y f r) {t1 t2 : Tk} {e : Env} {σ : L2.St} {Hk G H : Hp} {v w : V} {Q : VK} (re : RE (y.ct X) y.xa G e σ Hk H) (h1 : RT (y.ct X) G e σ Hk H t1 v) (h2 : RT (y.ct X) G e σ Hk H t2 w)
    (q : PoE (y.ct X) y.xa y.W G σ Hk (mLook2 f t1 t2 e) Q) : r v w H Q := by
  unfold mLook2 at q
  cases e1 : look t1 e with
  | none => rw [e1] at q; exact q.elim
  | some a =>
    cases e2 : look t2 e with
    | none => rw [e1, e2] at q; exact q.elim
    | some b =>
      rw [e1, e2] at q
      dsimp only at q
      unfold mOf at q
      cases e3 : f a b with
      | none => rw [e3] at q; exact q.elim
      | some t =>
        rw [e3] at q
        refine o Hk H a b v w t Q re.hk e3 (h1.look re e1) (h2.look re e2) fun z H' hz => ?_
        obtain ⟨Hk', k1, r1, rt⟩ := re.res hz
        exact q z Hk' H' k1 r1 rt
theorem mLook1_go {f : D → Option Tk} {r : V → Hp → VK → Prop} (o : Op1 X y f r) {t : Tk} {e : Env} {σ : L2.St} {Hk G H : Hp} {v : V} {Q : VK} (re : RE (y.ct X) y.xa G e σ Hk H) (h : RT (y.ct X) G e σ Hk H t v)
    (q : PoE (y.ct X) y.xa y.W G σ Hk (mLook1 f t e) Q) : r v H Q := by
  unfold mLook1 at q
  cases e1 : look t e with
  | none => rw [e1] at q; exact q.elim
  | some a =>
    rw [e1] at q
    dsimp only at q
    unfold mOf at q
    cases e3 : f a with
    | none => rw [e3] at q; exact q.elim
    | some t =>
      rw [e3] at q
      refine o Hk H a v t Q re.hk e3 (h.look re e1) fun z H' hz => ?_
      obtain ⟨Hk', k1, r1, rt⟩ := re.res hz
      exact q z Hk' H' k1 r1 rt
variable {a b c : Expr} {m1 m2 m3 : M Tk} {pos : Pos}
theorem t_bin {f : D → D → Option Tk} {r : R2} (o : Op2 X y f r) {σ : L2.St} {H : Hp} {Q : VK} (h : tE X y (mBin f m1 m2) σ H Q) : tOp r (tE X y m1) (tE X y m2) σ H Q := by
  obtain ⟨env, Hk, G, re, q⟩ := h
  refine ⟨env, Hk, G, re, po_bind q fun t1 e1 v Hk1 H1 k1 r1 rt1 q1 => ?_⟩
  obtain ⟨Hk1', k1', r1, rv1⟩ := rt1.settle r1
  exact ⟨e1, Hk1', G, r1, po_bind (q1.kx k1') fun t2 e2 w Hk2 H2 k2 r2 rt2 q2 => mLook2_go o r2 (rv1.kx k2).rt rt2 q2⟩
theorem px_bin {f : D → D → Option Tk} {r : R2} {op : Operator} (ho : OpR X (binaryOp op) r) (o : Op2 X y f r) (ha : PX X y a m1) (hb : PX X y b m2) : PX X y (.BinOp a op b pos) (mBin f m1 m2) :=
  ⟨PE_imp (pe_op ho ha.pe hb.pe) fun _ _ _ h => t_bin o h⟩
theorem px_cmp {f : D → D → Option Tk} {r : R2} {op : CmpOp} (ho : OpR X (compareOp op) r) (o : Op2 X y f r) (ha : PX X y a m1) (hb : PX X y b m2) (hm : behindInMarks op b = false := by first | exact nomark _ | rfl) : PX X y (.Compare a [op] [b] pos) (mBin f m1 m2) :=
  ⟨PE_imp (pe_cmpR ho ha.pe hb.pe hm) fun _ _ _ h => t_bin o h⟩
theorem t_un {f : D → Option Tk} {r : V → Hp → VK → Prop} (o : Op1 X y f r) {σ : L2.St} {H : Hp} {Q : VK} (h : tE X y (mUn f m1) σ H Q) : tUn r (tE X y m1) σ H Q := by
  obtain ⟨env, Hk, G, re, q⟩ := h
  exact ⟨env, Hk, G, re, po_bind q fun t1 e1 v Hk1 H1 k1 r1 rt1 q1 => mLook1_go o r1 rt1 q1⟩
theorem px_un {f : D → Option Tk} {r : V → Hp → VK → Prop} {op : UnaryOp} (ho : UnR X (unaryOp op) r) (o : Op1 X y f r) (ha : PX X y a m1) : PX X y (.UnaryOp op a pos) (mUn f m1) :=
  ⟨PE_imp (pe_un ho ha.pe) fun _ _ _ h => t_un o h⟩
theorem opR_or {f : Value → Value → Sem Value} {r r' : R2} (h : OpR X f r) (h' : OpR X f r') : OpR X f (fun x y H Q => r x y H Q ∨ r' x y H Q) :=
  fun pins s σ H x y v u Q I rx ry q => q.elim (h pins s σ H x y v u Q I rx ry) (h' pins s σ H x y v u Q I rx ry)

/-! ### the operators -/
def dAdd : D → D → Option Tk
  | .int i, .int j => some (.val (.int (i + j)))
  | .str x, .str z => if x.length + z.length ≤ sizeLine then some (.val (.str (x ++ z))) else none
  | .lst xs, .lst ys => if xs.length + ys.length ≤ sizeLine then some (.new (.lst (xs ++ ys))) else none
  | .tup xs, .tup ys => if xs.length + ys.length ≤ sizeLine then some (.val (.tup (xs ++ ys))) else none
  | _, _ => none
def rAddG (K : PySem.W.Frag) : R2 := fun x y H Q => (rI0 fun i j => .int (i + j)) x y H Q ∨ (∃ i j, x = .str i ∧ y = .str j ∧ i.length + j.length ≤ sizeLine ∧ Q (.str (i ++ j)) H) ∨ rCat x y H Q ∨ rCatA K x y H Q
theorem op_addG : OpR X (binaryOp .Add) (rAddG X.K) := opR_or op_add (opR_or op_add_str (opR_or op_cat op_catA))
theorem rpl_len {C : Ct} {H : Hp} {xs : List D} {vs : List V} (h : RpL C H xs vs) : vs.length = xs.length := h.len.symm
end
end VM

set_option Elab.async false
set_option linter.all false
set_option maxRecDepth 100000
set_option maxHeartbeats 1000000
/-! VM 3: operators, tests, displays, items, built-ins -/
namespace VM
open PySem PySem.Spec PyProof.Rows L2
section
variable {X : Cx} {y : Y} {a b c : Expr} {m1 m2 m3 : M Tk} {pos : Pos}
theorem sqT {K : PySem.W.Frag} {H : Hp} {a : Addr} {vs : List V} (h : H a = some (.tup vs)) : SqT K H a vs := .inl (.inl h)
theorem sqL {K : PySem.W.Frag} {H : Hp} {a : Addr} {vs : List V} (h : H a = some (.lst vs)) : SqL K H a vs := .inl (.inl h)
theorem add_ok : Op2 X y dAdd (rAddG X.K) := by
  intro Hk H a b v w t Q e h pa pb q
  cases a <;> cases b <;> simp only [dAdd] at h <;> first
    | (cases h; done)
    | (cases h; cases pa.int; cases pb.int; exact .inl ⟨_, _, rfl, rfl, q _ _ (res_flat rp_int e)⟩)
    | (split at h
       · cases h
         cases pa.str; cases pb.str
         exact .inr (.inl ⟨_, _, rfl, rfl, by assumption, q _ _ (res_flat rp_str e)⟩)
       · cases h)
    | (rename_i xs ys
       split at h
       · rename_i hl
         cases h
         first
          | (obtain ⟨p, vs, rfl, h1, h2⟩ := pa.lst e
             obtain ⟨p', vs', rfl, h1', h2'⟩ := pb.lst e
             exact .inr (.inr (.inl ⟨p, p', vs, vs', rfl, rfl, h1, h1', by rw [← h2.len, ← h2'.len]; exact hl, fun l hl => q _ _ (res_lst hl (h2.append h2'))⟩)))
          | (obtain ⟨p, vs, rfl, h1, h2, h3⟩ := pa.tup e
             obtain ⟨p', vs', rfl, h1', h2', h3'⟩ := pb.tup e
             refine .inr (.inr (.inr ⟨p, p', vs, vs', rfl, rfl, sqT h1, sqT h1', by rw [← h2.len, ← h2'.len]; exact hl, fun z => ?_, fun _ z => ?_, fun _ _ l hl => q _ _ (res_tup e hl (h2.append h2'))⟩))
             · have : xs = [] := List.eq_nil_of_length_eq_zero (by rw [h2.len, z]; rfl)
               subst this
               exact q _ _ (res_flat h3' e)
             · have : ys = [] := List.eq_nil_of_length_eq_zero (by rw [h2'.len, z]; rfl)
               subst this
               rw [List.append_nil] at q
               exact q _ _ (res_flat h3 e))
       · cases h)
theorem px_add (ha : PX X y a m1) (hb : PX X y b m2) : PX X y (.BinOp a .Add b pos) (mBin dAdd m1 m2) := px_bin op_addG add_ok ha hb

/-- whole numbers only -/
def dI (c : Int → Int → Bool) (g : Int → Int → D) : D → D → Option Tk
  | .int i, .int j => if c i j = true then some (.val (g i j)) else none
  | _, _ => none
def toV : D → V
  | .int i => .int i
  | .bl b => .bl b
  | .str s => .str s
  | _ => .non
theorem dI_ok {c : Int → Int → Bool} {g : Int → Int → D} {g' : Int → Int → V} {c' : Int → Int → Prop} (hg : ∀ i j H, Rp (y.ct X) H (g i j) (g' i j)) (hc : ∀ i j, c i j = true → c' i j) : Op2 X y (dI c g) (rI c' g') := by
  intro Hk H a b v w t Q e h pa pb q
  cases a <;> cases b <;> simp only [dI] at h <;> first
    | (cases h; done)
    | (split at h
       · cases h; cases pa.int; cases pb.int; exact ⟨_, _, rfl, rfl, hc _ _ (by assumption), q _ _ (res_flat (hg _ _ _) e)⟩
       · cases h)
theorem dI0_ok {g : Int → Int → D} {g' : Int → Int → V} (hg : ∀ i j H, Rp (y.ct X) H (g i j) (g' i j)) : Op2 X y (dI (fun _ _ => true) g) (rI0 g') := by
  intro Hk H a b v w t Q e h pa pb q
  obtain ⟨i, j, h1, h2, _, h3⟩ := dI_ok (c' := fun _ _ => True) hg (fun _ _ _ => trivial) Hk H a b v w t Q e h pa pb q
  exact ⟨i, j, h1, h2, h3⟩
def dSub : D → D → Option Tk := dI (fun _ _ => true) fun i j => .int (i - j)
theorem px_sub (ha : PX X y a m1) (hb : PX X y b m2) : PX X y (.BinOp a .Sub b pos) (mBin dSub m1 m2) := px_bin op_sub (dI0_ok fun _ _ _ => rp_int) ha hb
/-- products of whole numbers, lists and tuples repeated -/
def mulOk (i j : Int) : Bool := decide (i.natAbs.log2 + j.natAbs.log2 < 1000000)
theorem mulOk_w {i j : Int} (h : mulOk i j = true) : CMulW i j := by
  unfold mulOk at h
  have h' := of_decide_eq_true h
  exact h'
def dMul : D → D → Option Tk
  | .int i, .int j => if mulOk i j = true then some (.val (.int (i * j))) else none
  | .lst xs, .int k => if -(2 ^ 63) ≤ k ∧ k < 2 ^ 63 ∧ xs.length * k.toNat ≤ sizeLine then some (.new (.lst (List.replicate k.toNat xs).flatten)) else none
  | .tup xs, .int k => if xs ≠ [] ∧ 2 ≤ k ∧ k ≤ 1000 ∧ xs.length ≤ 1000 then some (.val (.tup (List.replicate k.toNat xs).flatten)) else none
  | _, _ => none
def rMulG (K : PySem.W.Frag) : R2 := fun x y H Q => (rI CMulW fun i j => .int (i * j)) x y H Q ∨ rRep x y H Q ∨ rRepT K x y H Q
theorem op_mulG : OpR X (binaryOp .Mult) (rMulG X.K) := opR_or op_mulW (opR_or op_rep op_repT)
theorem RpL.rep {C : Ct} {H : Hp} {xs : List D} {vs : List V} (h : RpL C H xs vs) : ∀ n : Nat, RpL C H (List.replicate n xs).flatten (List.replicate n vs).flatten
  | 0 => RpL.nil
  | n + 1 => by
    rw [List.replicate_succ, List.replicate_succ, List.flatten_cons, List.flatten_cons]
    exact h.append (RpL.rep h n)
theorem mul_ok : Op2 X y dMul (rMulG X.K) := by
  intro Hk H a b v w t Q e h pa pb q
  cases a <;> cases b <;> simp only [dMul] at h <;> first
    | (cases h; done)
    | (split at h
       · rename_i hc
         cases h
         first
          | (cases pa.int; cases pb.int; have hm := mulOk_w hc; exact .inl ⟨_, _, rfl, rfl, hm, q _ _ (res_flat rp_int e)⟩)
          | (cases pb.int
             obtain ⟨p, vs, rfl, h1, h2⟩ := pa.lst e
             exact .inr (.inl ⟨p, _, vs, rfl, rfl, h1, hc.1, hc.2.1, by rw [← h2.len]; exact hc.2.2, fun l hl => q _ _ (res_lst hl (h2.rep _))⟩))
          | (cases pb.int
             obtain ⟨p, vs, rfl, h1, h2, h3⟩ := pa.tup e
             refine .inr (.inr ⟨p, _, vs, rfl, rfl, sqT h1, fun z => hc.1 (List.eq_nil_of_length_eq_zero (by rw [h2.len, z]; rfl)), hc.2.1, hc.2.2.1, by rw [← h2.len]; exact hc.2.2.2, fun l hl => q _ _ (res_tup e hl (h2.rep _))⟩))
       · cases h)
theorem px_mul (ha : PX X y a m1) (hb : PX X y b m2) : PX X y (.BinOp a .Mult b pos) (mBin dMul m1 m2) := px_bin op_mulG mul_ok ha hb
def divOk (j : Int) : Bool := decide (0 < j) && decide (j.natAbs.log2 < 9000)
def dDiv : D → D → Option Tk := dI (fun _ j => divOk j) fun i j => .int (i / j)
theorem px_div (ha : PX X y a m1) (hb : PX X y b m2) : PX X y (.BinOp a .FloorDiv b pos) (mBin dDiv m1 m2) := px_bin op_fdivW (dI_ok (fun _ _ _ => rp_int) fun i j h => by
  unfold divOk at h
  rw [Bool.and_eq_true] at h
  exact ⟨of_decide_eq_true h.1, of_decide_eq_true h.2⟩) ha hb
def dMod : D → D → Option Tk := dI (fun _ j => decide (0 < j)) fun i j => .int (i % j)
theorem px_mod (ha : PX X y a m1) (hb : PX X y b m2) : PX X y (.BinOp a .Mod b pos) (mBin dMod m1 m2) := px_bin op_mod (dI_ok (fun _ _ _ => rp_int) fun i j h => of_decide_eq_true h) ha hb
def dPow : D → D → Option Tk := dI (fun i j => decide (0 ≤ j ∧ j ≤ 1000000 ∧ i.natAbs < 2 ^ 64)) fun i j => .int (i ^ j.toNat)
theorem px_pow (ha : PX X y a m1) (hb : PX X y b m2) : PX X y (.BinOp a .Pow b pos) (mBin dPow m1 m2) := px_bin op_pow (dI_ok (fun _ _ _ => rp_int) fun i j h => by
  have h' : 0 ≤ j ∧ j ≤ 1000000 ∧ i.natAbs < 2 ^ 64 := of_decide_eq_true h
  exact h') ha hb
def dNeg : D → Option Tk
  | .int i => some (.val (.int (-i)))
  | _ => none
theorem px_neg (ha : PX X y a m1) : PX X y (.UnaryOp .USub a pos) (mUn dNeg m1) := px_un un_neg (by
  intro Hk H d v t Q e h pa q
  cases d <;> simp only [dNeg] at h <;> first
    | (cases h; done)
    | (cases h; cases pa.int; exact ⟨_, rfl, q _ _ (res_flat rp_int e)⟩)) ha

/-! ### comparisons -/
def lift (f : D → D → Option Bool) : D → D → Option Tk := fun a b => match f a b with
  | some k => some (.val (.bl k))
  | none => none
def cI (p : Int → Int → Bool) : D → D → Option Bool
  | .int i, .int j => some (p i j)
  | _, _ => none
abbrev cLt := cI fun i j => decide (i < j)
abbrev cLe := cI fun i j => decide (i ≤ j)
abbrev cGt := cI fun i j => decide (j < i)
abbrev cGe := cI fun i j => decide (j ≤ i)
theorem cI_ok {p : Int → Int → Bool} : Op2 X y (lift (cI p)) (rI0 fun i j => .bl (p i j)) := by
  intro Hk H a b v w t Q e h pa pb q
  cases a <;> cases b <;> simp only [lift, cI] at h <;> first
    | (cases h; done)
    | (cases h; cases pa.int; cases pb.int; exact ⟨_, _, rfl, rfl, q _ _ (res_flat rp_bl e)⟩)
mutual
def D.py : D → PyData
  | .non => .none
  | .bl b => .bool b
  | .int i => .int i
  | .str s => .str s
  | .scr ns => .list (ns.map PyData.int)
  | .lst xs => .list (pyL xs)
  | .tup xs => .tuple (pyL xs)
  | .ins _ _ _ => .none
  | .dic _ _ => .none
  | .tupf _ => .none
  | .ty _ => .none
  | .cl _ => .none
def pyL : List D → List PyData
  | [] => []
  | d :: ds => d.py :: pyL ds
end
/-- plain data: no instance, no script; texts that are texts; depth n at most -/
def D.pl : Nat → D → Bool
  | _, .non | _, .bl _ | _, .int _ => true
  | _, .str s => PyData.strOk s
  | n + 1, .lst xs => xs.all (D.pl n)
  | n + 1, .tup xs => xs.all (D.pl n)
  | _, _ => false
theorem depth_le : ∀ (n : Nat) (d : D), d.pl n = true → d.py.canLay0 = true ∧ d.py.depth ≤ n
  | n, .non, _ => by simp [D.py, PyData.canLay0, PyData.depth]
  | n, .bl _, _ => by simp [D.py, PyData.canLay0, PyData.depth]
  | n, .int _, _ => by simp [D.py, PyData.canLay0, PyData.depth]
  | n, .str s, h => by
    have h' : PyData.strOk s = true := by simpa [D.pl] using h
    simp [D.py, PyData.canLay0, PyData.depth, h']
  | 0, .lst xs, h => by simp [D.pl] at h
  | 0, .tup xs, h => by simp [D.pl] at h
  | n + 1, .lst xs, h => by
    have h' : xs.all (D.pl n) = true := by simpa [D.pl] using h
    obtain ⟨h1, h2⟩ := all_le n xs h'
    simp only [D.py, PyData.canLay0, PyData.depth]
    exact ⟨h1, by omega⟩
  | n + 1, .tup xs, h => by
    have h' : xs.all (D.pl n) = true := by simpa [D.pl] using h
    obtain ⟨h1, h2⟩ := all_le n xs h'
    simp only [D.py, PyData.canLay0, PyData.depth]
    exact ⟨h1, by omega⟩
  | n, .scr _, h => by cases n <;> simp [D.pl] at h
  | n, .ins _ _ _, h => by cases n <;> simp [D.pl] at h
  | n, .dic _ _, h => by cases n <;> simp [D.pl] at h
  | n, .tupf _, h => by cases n <;> simp [D.pl] at h
  | n, .ty _, h => by cases n <;> simp [D.pl] at h
  | n, .cl _, h => by cases n <;> simp [D.pl] at h
where
  all_le (n : Nat) : ∀ (xs : List D), xs.all (D.pl n) = true → PyData.canLayAll0 (pyL xs) = true ∧ PyData.depthAll (pyL xs) ≤ n
  | [], _ => by simp [pyL, PyData.canLayAll0, PyData.depthAll]
  | d :: ds, h => by
    rw [List.all_cons, Bool.and_eq_true] at h
    obtain ⟨h1, h2⟩ := depth_le n d h.1
    obtain ⟨h3, h4⟩ := all_le n ds h.2
    simp only [pyL, PyData.canLayAll0, PyData.depthAll, h1, h3]
    exact ⟨rfl, by omega⟩
theorem pl_shaped {d : D} (h : d.pl 64 = true) : SeqAt.shaped d.py = true := by
  obtain ⟨h1, h2⟩ := depth_le 64 d h
  unfold SeqAt.shaped
  rw [h1]
  exact decide_eq_true h2
theorem dp_of {C : Ct} {H : Hp} : ∀ (n : Nat) (d : D) (v : V), d.pl n = true → Rp C H d v → Dp C.K H v d.py
  | n, .non, v, _, h => by unfold Rp at h; subst h; exact .non
  | n, .bl _, v, _, h => by unfold Rp at h; subst h; exact .bl _
  | n, .int _, v, _, h => by unfold Rp at h; subst h; exact .int _
  | n, .str s, v, _, h => by unfold Rp at h; subst h; exact .str _
  | 0, .lst xs, _, h, _ => by simp [D.pl] at h
  | 0, .tup xs, _, h, _ => by simp [D.pl] at h
  | n + 1, .lst xs, v, h, r => by
    have h' : xs.all (D.pl n) = true := by simpa [D.pl] using h
    unfold Rp at r
    obtain ⟨a, vs, rfl, h1, h2⟩ := r
    exact .lst (sqL h1) (dps n xs vs h' h2)
  | n + 1, .tup xs, v, h, r => by
    have h' : xs.all (D.pl n) = true := by simpa [D.pl] using h
    unfold Rp at r
    obtain ⟨a, vs, rfl, h1, h2⟩ := r
    exact .tup (sqT h1) (dps n xs vs h' h2)
  | n, .scr _, _, h, _ => by cases n <;> simp [D.pl] at h
  | n, .ins _ _ _, _, h, _ => by cases n <;> simp [D.pl] at h
  | n, .dic _ _, _, h, _ => by cases n <;> simp [D.pl] at h
  | n, .tupf _, _, h, _ => by cases n <;> simp [D.pl] at h
  | n, .ty _, _, h, _ => by cases n <;> simp [D.pl] at h
  | n, .cl _, _, h, _ => by cases n <;> simp [D.pl] at h
where
  dps (n : Nat) : ∀ (xs : List D) (vs : List V), xs.all (D.pl n) = true → RpL C H xs vs → DpAll C.K H vs (pyL xs)
  | [], _, _, h => by unfold RpL at h; subst h; exact .nil
  | d :: ds, vs, h, r => by
    rw [List.all_cons, Bool.and_eq_true] at h
    obtain ⟨v, r', rfl, h1, h2⟩ := r.inv
    exact .cons (dp_of n d v h.1 h1) (dps n ds r' h.2 h2)
def D.eq (a b : D) : Bool := PyData.eqv a.py b.py
def cEq (a b : D) : Option Bool := if a.pl 64 = true ∧ b.pl 64 = true then some (D.eq a b) else none
def cNe (a b : D) : Option Bool := if a.pl 64 = true ∧ b.pl 64 = true then some (!D.eq a b) else none
theorem eq_ok : Op2 X y (lift cEq) (rEqD X.K) := by
  intro Hk H a b v w t Q e h pa pb q
  unfold lift cEq at h
  split at h
  rename_i hq
  split at hq
  · rename_i hc
    cases h
    cases hq
    exact ⟨_, _, dp_of 64 a v hc.1 (pa.all e), dp_of 64 b w hc.2 (pb.all e), pl_shaped hc.1, pl_shaped hc.2, q _ _ (res_flat rp_bl e)⟩
  · cases hq
  · cases h
theorem ne_ok : Op2 X y (lift cNe) (rNeD X.K) := by
  intro Hk H a b v w t Q e h pa pb q
  unfold lift cNe at h
  split at h
  rename_i hq
  split at hq
  · rename_i hc
    cases h
    cases hq
    exact ⟨_, _, dp_of 64 a v hc.1 (pa.all e), dp_of 64 b w hc.2 (pb.all e), pl_shaped hc.1, pl_shaped hc.2, q _ _ (res_flat rp_bl e)⟩
  · cases hq
  · cases h
def D.isN : D → Bool
  | .non => true
  | _ => false
theorem isN_v {C : Ct} {Hk H : Hp} {d : D} {v : V} (e : Ex Hk H) (h : Pk C Hk H d v) : decide (v = .non) = d.isN := by
  cases d with
  | non => cases h.non; rfl
  | bl b => cases h.bl; rfl
  | int i => cases h.int; rfl
  | str s => cases h.str; rfl
  | scr ns => obtain ⟨a, rfl, _⟩ := h.scr e; rfl
  | lst xs => obtain ⟨a, vs, rfl, _⟩ := h.lst e; rfl
  | tup xs => obtain ⟨a, vs, rfl, _⟩ := h.tup e; rfl
  | ins c ns xs => obtain ⟨a, dx, vs, rfl, _⟩ := h.ins e; rfl
  | dic ks xs => obtain ⟨a, vs, rfl, _⟩ := h.dic e; rfl
  | tupf xs => obtain ⟨a, o, vs, rfl, _⟩ := h.tupf e; rfl
  | ty n => cases h.ty; rfl
  | cl c => cases h.cl; rfl
def cIs (a b : D) : Option Bool := if b.isN = true then some a.isN else none
def cIsNot (a b : D) : Option Bool := if b.isN = true then some (!a.isN) else none
theorem is_ok : Op2 X y (lift cIs) (fun x y H Q => y = .non ∧ Q (.bl (decide (x = .non))) H) := by
  intro Hk H a b v w t Q e h pa pb q
  unfold lift cIs at h
  split at h
  rename_i hq
  split at hq
  · rename_i hc
    cases h
    cases hq
    refine ⟨?_, ?_⟩
    · have := isN_v e pb
      rw [hc] at this
      exact of_decide_eq_true this
    · rw [isN_v e pa]
      exact q _ _ (res_flat rp_bl e)
  · cases hq
  · cases h
theorem isnot_ok : Op2 X y (lift cIsNot) (fun x y H Q => y = .non ∧ Q (.bl (!decide (x = .non))) H) := by
  intro Hk H a b v w t Q e h pa pb q
  unfold lift cIsNot at h
  split at h
  rename_i hq
  split at hq
  · rename_i hc
    cases h
    cases hq
    refine ⟨?_, ?_⟩
    · have := isN_v e pb
      rw [hc] at this
      exact of_decide_eq_true this
    · rw [isN_v e pa]
      exact q _ _ (res_flat rp_bl e)
  · cases hq
  · cases h
end

/-! ### tests -/
section
variable {X : Cx} {y : Y} {a b c : Expr} {m1 m2 m3 : M Tk} {pos : Pos}
def D.tru : D → Option Bool
  | .non => some false
  | .bl b => some b
  | .int i => some (i != 0)
  | .str s => if s.length ≤ sizeLine then some ((s.length : Int) != 0) else none
  | .lst xs => some !xs.isEmpty
  | .tup xs => some !xs.isEmpty
  | _ => none
theorem tru_v {C : Ct} {Hk H : Hp} {d : D} {v : V} {k : Bool} (e : Ex Hk H) (h : Pk C Hk H d v) (q : d.tru = some k) : TruV C.K v H k := by
  cases d with
  | non => cases h.non; cases q; rfl
  | bl b => cases h.bl; cases q; rfl
  | int i => cases h.int; cases q; rfl
  | str s =>
    cases h.str
    dsimp only [D.tru] at q
    split at q
    · cases q; exact ⟨by assumption, rfl⟩
    · cases q
  | scr ns => cases q
  | lst xs =>
    obtain ⟨a, vs, rfl, h1, h2⟩ := h.lst e
    cases q
    exact .inl ⟨vs, sqL h1, by cases xs <;> cases vs <;> first | rfl | (have := h2.len; simp at this)⟩
  | tup xs =>
    obtain ⟨a, vs, rfl, h1, h2, _⟩ := h.tup e
    cases q
    exact .inr (.inl ⟨vs, sqT h1, by cases xs <;> cases vs <;> first | rfl | (have := h2.len; simp at this)⟩)
  | ins c ns xs => cases q
  | dic ks xs => cases q
  | tupf xs => cases q
  | ty n => cases q
  | cl c => cases q
def mTru (t : Tk) : M Bool := fun env => match look t env with
  | some d => mOf d.tru env
  | none => .bad
def mTest (m : M Tk) : M Bool := mBind m mTru
theorem tb_bind {m : M Tk} {f : Tk → M Bool} {env : Env} {G : Hp} {σ : L2.St} {Hk : Hp} {Q : Bool → Hp → Prop} {R : VK} (q : PoB (y.ct X) y.xa y.W G σ Hk (mBind m f env) Q)
    (k : ∀ t e v Hk' H1, Kx G Hk Hk' → RE (y.ct X) y.xa G e σ Hk' H1 → RT (y.ct X) G e σ Hk' H1 t v → PoB (y.ct X) y.xa y.W G σ Hk' (f t e) Q → R v H1) : PoE (y.ct X) y.xa y.W G σ Hk (m env) R := by
  unfold mBind at q
  cases e : m env with
  | ok t e1 => rw [e] at q; exact fun v Hk' H' k' r' h' => k t e1 v Hk' H' k' r' h' (q.kx k')
  | ex c ns ds e1 => rw [e] at q; exact q
  | bad => rw [e] at q; exact q
theorem mTru_go {t : Tk} {e : Env} {σ : L2.St} {Hk G H : Hp} {v : V} {Q : Bool → Hp → Prop} (re : RE (y.ct X) y.xa G e σ Hk H) (h : RT (y.ct X) G e σ Hk H t v) (q : PoB (y.ct X) y.xa y.W G σ Hk (mTru t e) Q) :
    ∃ k, TruV X.K v H k ∧ Q k H := by
  unfold mTru at q
  cases e1 : look t e with
  | none => rw [e1] at q; exact q.elim
  | some d =>
    rw [e1] at q
    dsimp only at q
    unfold mOf at q
    cases e2 : d.tru with
    | none => rw [e2] at q; exact q.elim
    | some k =>
      rw [e2] at q
      exact ⟨k, tru_v (C := y.ct X) re.hk (h.look re e1) e2, q Hk H (Kx.refl _ _) re⟩
/-- an expression as a test -/
theorem pb_x (ha : PX X y a m1) (he : ∀ whole, isTrue a X.env whole = (do let v ← whole; standAt a.pos; holding [v] (truthy v)) := by intro _; rfl) : PB X y a (mTest m1) :=
  ⟨PT_imp (pt_truth ha.pe he) fun σ H Q ⟨env, Hk, G, re, q⟩ => ⟨env, Hk, G, re, tb_bind q fun t e v Hk' H1 k r rt q => mTru_go r rt q⟩⟩
/-- a comparison as a test -/
def mCmp (f : D → D → Option Bool) (m1 m2 : M Tk) : M Bool := mBind m1 fun t1 => mBind m2 fun t2 env => match look t1.settle env, look t2 env with
  | some a, some b => mOf (f a b) env
  | _, _ => .bad
theorem pb_cmp {f : D → D → Option Bool} {r : R2} {op : CmpOp} (ho : OpR X (compareOp op) r) (o : Op2 X y (lift f) r) (ha : PX X y a m1) (hb : PX X y b m2) (hm : behindInMarks op b = false := by first | exact nomark _ | rfl) :
    PB X y (.Compare a [op] [b] pos) (mCmp f m1 m2) := by
  refine ⟨PT_imp (pt_cmpR ho ha.pe hb.pe hm) fun σ H Q ⟨env, Hk, G, re, q⟩ => ?_⟩
  refine ⟨env, Hk, G, re, tb_bind q fun t1 e1 v Hk1 H1 k1 r1 rt1 q1 => ?_⟩
  obtain ⟨Hk1', k1', r1, rv1⟩ := rt1.settle r1
  refine ⟨e1, Hk1', G, r1, tb_bind (q1.kx k1') fun t2 e2 w Hk2 H2 k2 r2 rt2 q2 => ?_⟩
  have rt1 := (rv1.kx k2).rt (G := G) (env := e2) (H := H2)
  cases z1 : look t1.settle e2 with
  | none => rw [z1] at q2; exact q2.elim
  | some d1 =>
    cases z2 : look t2 e2 with
    | none => rw [z1, z2] at q2; exact q2.elim
    | some d2 =>
      rw [z1, z2] at q2
      dsimp only at q2
      unfold mOf at q2
      cases z3 : f d1 d2 with
      | none => rw [z3] at q2; exact q2.elim
      | some k =>
        rw [z3] at q2
        refine o Hk2 H2 d1 d2 v w (.val (.bl k)) _ r2.hk (by unfold lift; rw [z3]) (rt1.look r2 z1) (rt2.look r2 z2) fun z H' hz => ?_
        obtain ⟨Hk', k', r', rz⟩ := r2.res hz
        have rz : Rp (y.ct X) Hk' (.bl k) z := rz
        unfold Rp at rz
        exact ⟨k, rz, q2 Hk' H' k' r'⟩
def mAnd (m1 m2 : M Bool) : M Bool := mBind m1 fun b => if b = true then m2 else fun env => .ok false env
def mOr (m1 m2 : M Bool) : M Bool := mBind m1 fun b => if b = true then fun env => .ok true env else m2
def mNot (m1 : M Bool) : M Bool := mBind m1 fun b env => .ok (!b) env
theorem bb_bind {m : M Bool} {f : Bool → M Bool} {env : Env} {G : Hp} {σ : L2.St} {Hk : Hp} {Q R : Bool → Hp → Prop} (q : PoB (y.ct X) y.xa y.W G σ Hk (mBind m f env) Q)
    (k : ∀ b e Hk' H1, Kx G Hk Hk' → RE (y.ct X) y.xa G e σ Hk' H1 → PoB (y.ct X) y.xa y.W G σ Hk' (f b e) Q → R b H1) : PoB (y.ct X) y.xa y.W G σ Hk (m env) R := by
  unfold mBind at q
  cases e : m env with
  | ok t e1 => rw [e] at q; exact fun Hk' H' k' r' => k t e1 Hk' H' k' r' (q.kx k')
  | ex c ns ds e1 => rw [e] at q; exact q
  | bad => rw [e] at q; exact q
theorem be_bind {m : M Bool} {f : Bool → M Tk} {env : Env} {G : Hp} {σ : L2.St} {Hk : Hp} {Q : VK} {R : Bool → Hp → Prop} (q : PoE (y.ct X) y.xa y.W G σ Hk (mBind m f env) Q)
    (k : ∀ b e Hk' H1, Kx G Hk Hk' → RE (y.ct X) y.xa G e σ Hk' H1 → PoE (y.ct X) y.xa y.W G σ Hk' (f b e) Q → R b H1) : PoB (y.ct X) y.xa y.W G σ Hk (m env) R := by
  unfold mBind at q
  cases e : m env with
  | ok t e1 => rw [e] at q; exact fun Hk' H' k' r' => k t e1 Hk' H' k' r' (q.kx k')
  | ex c ns ds e1 => rw [e] at q; exact q
  | bad => rw [e] at q; exact q
/-- and, or: any test's 'whole' -/
structure PBW (X : Cx) (y : Y) (e : Expr) (m : M Bool) : Prop where
  pw : PW X e (tB X y m)
theorem PW_imp {e : Expr} {t t' : TT} (h : PW X e t) (f : ∀ σ H Q, t' σ H Q → t σ H Q) : PW X e t' := ⟨fun w pins s σ H Q I q => h.run w pins s σ H Q I (f σ H Q q)⟩
theorem PBW.pb {e : Expr} {m : M Bool} (h : PBW X y e m) : PB X y e m := ⟨h.pw.pt⟩
variable {n1 n2 : M Bool} {rest : List Expr}
theorem pb_and1 (ha : PB X y a n1) : PBW X y (.BoolOp .And [a] pos) n1 := ⟨pw_and1 ha.pt⟩
theorem pb_or1 (ha : PB X y a n1) : PBW X y (.BoolOp .Or [a] pos) n1 := ⟨pw_or1 ha.pt⟩
theorem pb_and (ha : PB X y a n1) (hb : PBW X y (.BoolOp .And (b :: rest) pos) n2) : PBW X y (.BoolOp .And (a :: b :: rest) pos) (mAnd n1 n2) :=
  ⟨PW_imp (pw_and ha.pt hb.pw) fun σ H Q ⟨env, Hk, G, re, q⟩ => ⟨env, Hk, G, re, bb_bind q fun k e Hk' H1 k1 r1 q1 => by
    cases k with
    | true => rw [if_pos rfl]; exact ⟨e, Hk', G, r1, q1⟩
    | false => rw [if_neg Bool.false_ne_true]; exact q1 Hk' H1 (Kx.refl _ _) r1⟩⟩
theorem pb_or (ha : PB X y a n1) (hb : PBW X y (.BoolOp .Or (b :: rest) pos) n2) : PBW X y (.BoolOp .Or (a :: b :: rest) pos) (mOr n1 n2) :=
  ⟨PW_imp (pw_or ha.pt hb.pw) fun σ H Q ⟨env, Hk, G, re, q⟩ => ⟨env, Hk, G, re, bb_bind q fun k e Hk' H1 k1 r1 q1 => by
    cases k with
    | true => rw [if_pos rfl]; exact q1 Hk' H1 (Kx.refl _ _) r1
    | false => rw [if_neg Bool.false_ne_true]; exact ⟨e, Hk', G, r1, q1⟩⟩⟩
theorem pb_not (ha : PB X y a n1) : PB X y (.UnaryOp .Not a pos) (mNot n1) :=
  ⟨PT_imp (pt_not ha.pt) fun σ H Q ⟨env, Hk, G, re, q⟩ => ⟨env, Hk, G, re, bb_bind q fun k e Hk' H1 k1 r1 q1 => q1 Hk' H1 (Kx.refl _ _) r1⟩⟩
/-- a if c else b -/
def mIf (n : M Bool) (m1 m2 : M Tk) : M Tk := mBind n fun b => if b = true then m1 else m2
theorem px_if (hc : PB X y c n1) (ha : PX X y a m1) (hb : PX X y b m2) : PX X y (.IfExp c a b pos) (mIf n1 m1 m2) :=
  ⟨PE_imp (pe_ifExp hc.pt ha.pe hb.pe) fun σ H Q ⟨env, Hk, G, re, q⟩ => ⟨env, Hk, G, re, be_bind q fun k e Hk' H1 k1 r1 q1 => by
    cases k with
    | true => rw [if_pos rfl]; exact ⟨e, Hk', G, r1, q1⟩
    | false => rw [if_neg Bool.false_ne_true]; exact ⟨e, Hk', G, r1, q1⟩⟩⟩
/-- and, or, not as values: all but the last a truth -/
def mBl (t : Tk) : M Bool := fun env => match look t env with
  | some (.bl b) => .ok b env
  | _ => .bad
theorem mBl_go {t : Tk} {e : Env} {σ : L2.St} {Hk G H : Hp} {v : V} {f : Bool → M Tk} {Q : VK} (re : RE (y.ct X) y.xa G e σ Hk H) (h : RT (y.ct X) G e σ Hk H t v) (q : PoE (y.ct X) y.xa y.W G σ Hk (mBind (mBl t) f e) Q) :
    ∃ k, v = .bl k ∧ PoE (y.ct X) y.xa y.W G σ Hk (f k e) Q := by
  unfold mBind mBl at q
  cases e1 : look t e with
  | none => rw [e1] at q; exact q.elim
  | some d =>
    rw [e1] at q
    cases d with
    | bl b => exact ⟨b, (h.look re e1).bl, q⟩
    | _ => exact q.elim
def mAndV (m1 m2 : M Tk) : M Tk := mBind m1 fun t => mBind (mBl t) fun b => if b = true then m2 else mC (.bl false)
def mOrV (m1 m2 : M Tk) : M Tk := mBind m1 fun t => mBind (mBl t) fun b => if b = true then mC (.bl true) else m2
def mNotV (m1 : M Tk) : M Tk := mBind m1 fun t => mBind (mTru t) fun b => mC (.bl (!b))
theorem px_one {op} (ha : PX X y a m1) : PX X y (.BoolOp op [a] pos) m1 := ⟨pe_one ha.pe⟩
theorem px_and (ha : PX X y a m1) (hb : PX X y (.BoolOp .And (b :: rest) pos) m2) : PX X y (.BoolOp .And (a :: b :: rest) pos) (mAndV m1 m2) :=
  ⟨PE_imp (pe_and ha.pe hb.pe) fun σ H Q ⟨env, Hk, G, re, q⟩ => ⟨env, Hk, G, re, po_bind q fun t e v Hk' H1 k1 r1 rt1 q1 => by
    obtain ⟨k, ev, q2⟩ := mBl_go r1 rt1 q1
    refine ⟨k, ev, ?_⟩
    cases k with
    | true => rw [if_pos rfl]; exact ⟨e, Hk', G, r1, q2⟩
    | false => rw [if_neg Bool.false_ne_true]; exact q2 _ Hk' H1 (Kx.refl _ _) r1 (rp_bl (C := y.ct X) (H := Hk'))⟩⟩
theorem px_or (ha : PX X y a m1) (hb : PX X y (.BoolOp .Or (b :: rest) pos) m2) : PX X y (.BoolOp .Or (a :: b :: rest) pos) (mOrV m1 m2) :=
  ⟨PE_imp (pe_or ha.pe hb.pe) fun σ H Q ⟨env, Hk, G, re, q⟩ => ⟨env, Hk, G, re, po_bind q fun t e v Hk' H1 k1 r1 rt1 q1 => by
    obtain ⟨k, ev, q2⟩ := mBl_go r1 rt1 q1
    refine ⟨k, ev, ?_⟩
    cases k with
    | true => rw [if_pos rfl]; exact q2 _ Hk' H1 (Kx.refl _ _) r1 (rp_bl (C := y.ct X) (H := Hk'))
    | false => rw [if_neg Bool.false_ne_true]; exact ⟨e, Hk', G, r1, q2⟩⟩⟩
theorem px_not (ha : PX X y a m1) : PX X y (.UnaryOp .Not a pos) (mNotV m1) :=
  ⟨PE_imp (pe_notT ha.pe) fun σ H Q ⟨env, Hk, G, re, q⟩ => ⟨env, Hk, G, re, po_bind q fun t e v Hk' H1 k1 r1 rt1 q1 => by
    unfold mBind mTru at q1
    cases e1 : look t e with
    | none => rw [e1] at q1; exact q1.elim
    | some d =>
      rw [e1] at q1
      dsimp only at q1
      unfold mOf at q1
      cases e2 : d.tru with
      | none => rw [e2] at q1; exact q1.elim
      | some k =>
        rw [e2] at q1
        exact ⟨k, tru_v (C := y.ct X) r1.hk (rt1.look r1 e1) e2, q1 _ Hk' H1 (Kx.refl _ _) r1 (rp_bl (C := y.ct X) (H := Hk'))⟩⟩⟩
end
end VM

set_option Elab.async false
set_option linter.all false
set_option maxRecDepth 100000
set_option maxHeartbeats 1000000
/-! VM 4: arguments, displays, items, slices, built-ins -/
namespace VM
open PySem PySem.Spec PyProof.Rows L2
section
variable {X : Cx} {y : Y} {a b c e : Expr} {es : List Expr} {m m1 m2 m3 : M Tk} {ma : M (List Tk)} {pos p : Pos}
/-! ### argument lists -/
def mNil : M (List Tk) := fun env => .ok [] env
def mCons (m : M Tk) (ma : M (List Tk)) : M (List Tk) := mBind m fun t => mBind ma fun ts env => .ok (t.settle :: ts) env
theorem pas_nil : PAs X y [] mNil := ⟨PA_imp pa_nil fun σ H Q ⟨env, Hk, G, re, q⟩ => q [] Hk H (Kx.refl _ _) re .nil⟩
theorem pas_cons (h : PX X y e m) (hr : PAs X y es ma) (hs : starEach (e :: es) X.env = (false, eval e X.env) :: starEach es X.env := by rfl) : PAs X y (e :: es) (mCons m ma) := by
  refine ⟨PA_imp (pa_cons h.pe hr.pa hs) fun σ H Q ⟨env, Hk, G, re, q⟩ => ?_⟩
  refine ⟨env, Hk, G, re, ?_⟩
  unfold mCons mBind at q
  cases z : m env with
  | ok t e1 =>
    rw [z] at q
    intro v Hk1 H1 k1 r1 rt1
    obtain ⟨Hk1', k1', r1', rv1⟩ := rt1.settle r1
    refine ⟨e1, Hk1', G, r1', ?_⟩
    dsimp only at q
    cases z2 : ma e1 with
    | ok ts e2 =>
      rw [z2] at q
      intro vs Hk2 H2 k2 r2 rs
      exact q _ _ _ ((k1.trans k1').trans k2) r2 (.cons (rv1.kx k2) rs)
    | ex c ns ds e2 => rw [z2] at q; exact PoX.kx (k1.trans k1') q
    | bad => rw [z2] at q; exact q
  | ex c ns ds e1 => rw [z] at q; exact q
  | bad => rw [z] at q; exact q
def lookAll : List Tk → Env → Option (List D)
  | [], _ => some []
  | t :: ts, env => match look t env, lookAll ts env with
    | some d, some ds => some (d :: ds)
    | _, _ => none
def forceAll : List Tk → M (List D)
  | [] => fun env => .ok [] env
  | t :: ts => fun env => match force t env with
    | .ok d e1 => match forceAll ts e1 with
      | .ok ds e2 => .ok (d :: ds) e2
      | _ => .bad
    | _ => .bad
theorem RVs.look {C : Ct} {xa : Xa} {G : Hp} {env : Env} {σ : L2.St} {Hk H : Hp} (r : RE C xa G env σ Hk H) : ∀ {ts : List Tk} {vs : List V} {ds : List D}, RVs C σ Hk ts vs → lookAll ts env = some ds → Paired (fun d v => Pk C Hk H d v) ds vs
  | [], _, _, h, q => by cases h; cases q; exact .nil
  | t :: ts, _, ds, h, q => by
    cases h with
    | cons h1 h2 =>
      unfold lookAll at q
      cases z1 : VM.look t env with
      | none => rw [z1] at q; cases q
      | some d =>
        cases z2 : lookAll ts env with
        | none => rw [z1, z2] at q; cases q
        | some ds' =>
          rw [z1, z2] at q
          cases q
          exact .cons ((h1.rt (G := G) (env := env) (H := H)).look r z1) (RVs.look r h2 z2)
theorem RVs.force {C : Ct} {xa : Xa} {G : Hp} {σ : L2.St} {H : Hp} : ∀ {ts : List Tk} {env : Env} {Hk : Hp} {vs : List V} {ds : List D} {e : Env}, RE C xa G env σ Hk H → RVs C σ Hk ts vs → forceAll ts env = .ok ds e → ∃ Hk', Kx G Hk Hk' ∧ RE C xa G e σ Hk' H ∧ RpL C Hk' ds vs
  | [], env, Hk, _, _, _, r, h, q => by cases h; cases q; exact ⟨Hk, Kx.refl _ _, r, RpL.nil⟩
  | t :: ts, env, Hk, _, ds, e, r, h, q => by
    cases h with
    | cons h1 h2 =>
      unfold forceAll at q
      cases z1 : VM.force t env with
      | ok d e1 =>
        rw [z1] at q
        dsimp only at q
        cases z2 : forceAll ts e1 with
        | ok ds' e2 =>
          rw [z2] at q
          cases q
          obtain ⟨Hk1, k1, r1, d1⟩ := (h1.rt (G := G) (env := env) (H := H)).force r z1
          obtain ⟨Hk2, k2, r2, d2⟩ := RVs.force r1 (h2.kx k1) z2
          exact ⟨Hk2, k1.trans k2, r2, .cons (d1.mono k2.ex) d2⟩
        | ex c ns ds e2 => rw [z2] at q; cases q
        | bad => rw [z2] at q; cases q
      | ex c ns ds e1 => rw [z1] at q; cases q
      | bad => rw [z1] at q; cases q
theorem forceAll_cases : ∀ (ts : List Tk) (env : Env), (∃ ds e, forceAll ts env = .ok ds e) ∨ forceAll ts env = .bad
  | [], env => .inl ⟨_, _, rfl⟩
  | t :: ts, env => by
    unfold forceAll
    rcases force_cases t env with ⟨d, e1, z⟩ | z
    · rw [z]
      dsimp only
      rcases forceAll_cases ts e1 with ⟨ds, e2, z2⟩ | z2
      · rw [z2]; exact .inl ⟨_, _, rfl⟩
      · rw [z2]; exact .inr rfl
    · rw [z]; exact .inr rfl
theorem pa_bind {f : List Tk → M Tk} {env : Env} {G : Hp} {σ : L2.St} {Hk : Hp} {Q : VK} {R : List V → Hp → Prop} (q : PoE (y.ct X) y.xa y.W G σ Hk (mBind ma f env) Q)
    (k : ∀ ts e vs Hk' H1, Kx G Hk Hk' → RE (y.ct X) y.xa G e σ Hk' H1 → RVs (y.ct X) σ Hk' ts vs → PoE (y.ct X) y.xa y.W G σ Hk' (f ts e) Q → R vs H1) : PoA (y.ct X) y.xa y.W G σ Hk (ma env) R := by
  unfold mBind at q
  cases e : ma env with
  | ok t e1 => rw [e] at q; exact fun v Hk' H' k' r' h' => k t e1 v Hk' H' k' r' h' (q.kx k')
  | ex c ns ds e1 => rw [e] at q; exact q
  | bad => rw [e] at q; exact q
/-! ### displays -/
def mTup (ma : M (List Tk)) : M Tk := mBind ma fun ts => mBind (forceAll ts) fun ds => if ds.length ≤ 1000 then mC (.tup ds) else fun _ => .bad
def mLst (ma : M (List Tk)) : M Tk := mBind ma fun ts => mBind (forceAll ts) fun ds => if ds.length ≤ 1000 then fun env => .ok (.new (.lst ds)) env else fun _ => .bad
theorem le_line {n : Nat} (h : n ≤ 1000) : n ≤ sizeLine := Nat.le_trans h (by decide)
theorem px_tup {x1} (h : PAs X y es ma) : PX X y (.Tuple es x1 pos) (mTup ma) :=
  ⟨PE_imp (pe_tup h.pa) fun σ H Q ⟨env, Hk, G, re, q⟩ => ⟨env, Hk, G, re, pa_bind q fun ts e vs Hk' H1 k1 r1 rs q1 => by
    unfold mBind at q1
    rcases forceAll_cases ts e with ⟨ds, e2, z⟩ | z
    · rw [z] at q1
      dsimp only at q1
      obtain ⟨Hk2, k2, r2, hl⟩ := RVs.force r1 rs z
      split at q1
      · rename_i hz
        refine ⟨by rw [← hl.len]; exact le_line hz, fun p hp => ?_⟩
        obtain ⟨Hk3, k3, r3, rt⟩ := r2.res (res_tup r2.hk hp hl)
        exact q1 _ _ _ (k2.trans k3) r3 rt
      · exact q1.elim
    · rw [z] at q1; exact q1.elim⟩⟩
theorem px_lst (h : PAs X y es ma) : PX X y (.List es pos) (mLst ma) :=
  ⟨PE_imp (pe_lst h.pa) fun σ H Q ⟨env, Hk, G, re, q⟩ => ⟨env, Hk, G, re, pa_bind q fun ts e vs Hk' H1 k1 r1 rs q1 => by
    unfold mBind at q1
    rcases forceAll_cases ts e with ⟨ds, e2, z⟩ | z
    · rw [z] at q1
      dsimp only at q1
      obtain ⟨Hk2, k2, r2, hl⟩ := RVs.force r1 rs z
      split at q1
      · rename_i hz
        refine ⟨by rw [← hl.len]; exact le_line hz, fun p hp => ?_⟩
        obtain ⟨Hk3, k3, r3, rt⟩ := r2.res (res_lst hp hl)
        exact q1 _ _ _ (k2.trans k3) r3 rt
      · exact q1.elim
    · rw [z] at q1; exact q1.elim⟩⟩

/-! ### built-ins, called -/
def mCall (f : List D → Option Tk) (ma : M (List Tk)) : M Tk := mBind ma fun ts env => match lookAll ts env with
  | some ds => mOf (f ds) env
  | none => .bad
theorem t_call {f : List D → Option Tk} {r : List V → Hp → VK → Prop} (o : OpN X y f r) {σ : L2.St} {H : Hp} {Q : VK} (h : tE X y (mCall f ma) σ H Q) : tCB r (tA X y ma) σ H Q := by
  obtain ⟨env, Hk, G, re, q⟩ := h
  refine ⟨env, Hk, G, re, pa_bind q fun ts e1 vs Hk1 H1 k1 r1 rs q1 => ?_⟩
  cases z : lookAll ts e1 with
  | none => rw [z] at q1; exact q1.elim
  | some ds =>
    rw [z] at q1
    dsimp only at q1
    unfold mOf at q1
    cases z2 : f ds with
    | none => rw [z2] at q1; exact q1.elim
    | some t =>
      rw [z2] at q1
      refine o Hk1 H1 ds vs t Q r1.hk z2 (RVs.look r1 rs z) fun z H' hz => ?_
      obtain ⟨Hk', k', r', rt⟩ := r1.res hz
      exact q1 z Hk' H' k' r' rt
theorem px_blt {x : Str} {id : String} {f : List D → Option Tk} {r : List V → Hp → VK → Prop} (hc : CallR X (.builtin id) r) (o : OpN X y f r) (hg : Gl X x) (hm : X.mg x = none) (hv : bootBuiltins x = some (.builtin id)) (ha : PAs X y (e :: es) ma)
    (hn : x ≠ "__name__" := by decide) (hdb : (x == ("__debug__" : Str)) = false := by decide) (he : starEach (e :: es) X.env = (false, eval e X.env) :: starEach es X.env := by rfl) (hpl : (backTo pos (starEach es X.env)).any (·.1) = false := by rfl) :
    PX X y (.Call (.Name x p) (e :: es) [] pos) (mCall f ma) :=
  ⟨PE_imp (pe_callB hc hg hm hv ha.pa hn hdb he hpl) fun _ _ _ h => t_call o h⟩
theorem px_typ {x : Str} {T : String} {f : List D → Option Tk} {r : List V → Hp → VK → Prop} (hc : CallR X (.type T) r) (o : OpN X y f r) (hg : Gl X x) (hm : X.mg x = none) (hv : bootBuiltins x = some (.type T)) (ha : PAs X y (e :: es) ma)
    (hn : x ≠ "__name__" := by decide) (hdb : (x == ("__debug__" : Str)) = false := by decide) (he : starEach (e :: es) X.env = (false, eval e X.env) :: starEach es X.env := by rfl) (hpl : (backTo pos (starEach es X.env)).any (·.1) = false := by rfl) :
    PX X y (.Call (.Name x p) (e :: es) [] pos) (mCall f ma) :=
  ⟨PE_imp (pe_callTy hc hg hm hv ha.pa hn hdb he hpl) fun _ _ _ h => t_call o h⟩
/-- the functions of one argument -/
def fn1 (f : D → Option Tk) : List D → Option Tk
  | [d] => f d
  | _ => none
def fn2 (f : D → D → Option Tk) : List D → Option Tk
  | [d, d'] => f d d'
  | _ => none
theorem op1N {f : D → Option Tk} {r : List V → Hp → VK → Prop} (h : Op1 X y f (fun v H Q => r [v] H Q)) : OpN X y (fn1 f) r := by
  intro Hk H ds vs t Q e hf hp q
  cases hp with
  | nil => cases hf
  | cons h1 h2 =>
    cases h2 with
    | nil => exact h Hk H _ _ t Q e hf h1 q
    | cons => cases hf
theorem op2N {f : D → D → Option Tk} {r : List V → Hp → VK → Prop} (h : Op2 X y f (fun v w H Q => r [v, w] H Q)) : OpN X y (fn2 f) r := by
  intro Hk H ds vs t Q e hf hp q
  cases hp with
  | nil => cases hf
  | cons h1 h2 =>
    cases h2 with
    | nil => cases hf
    | cons h2 h3 =>
      cases h3 with
      | nil => exact h Hk H _ _ _ _ t Q e hf h1 h2 q
      | cons => cases hf
theorem callR_or {f : Value} {r r' : List V → Hp → VK → Prop} (h : CallR X f r) (h' : CallR X f r') : CallR X f (fun xs H Q => r xs H Q ∨ r' xs H Q) :=
  fun pins s σ H xs us Q I rx q => q.elim (h pins s σ H xs us Q I rx) (h' pins s σ H xs us Q I rx)
def dLen : D → Option Tk
  | .lst xs => some (.val (.int xs.length))
  | .tup xs => some (.val (.int xs.length))
  | .scr xs => some (.val (.int xs.length))
  | .str s => if s.length ≤ sizeLine then some (.val (.int s.length)) else none
  | _ => none
theorem len_ok : OpN X y (fn1 dLen) (fun xs H Q => ∃ x n, xs = [x] ∧ LenV X.K x H n ∧ Q (.int n) H) := op1N (by
  intro Hk H d v t Q e h pa q
  cases d <;> simp only [dLen] at h <;> first
    | (cases h; done)
    | (cases h
       first
        | (obtain ⟨a, vs, rfl, h1, h2⟩ := pa.lst e
           exact ⟨_, _, rfl, .inl ⟨vs, sqL h1, h2.len⟩, q _ _ (res_flat rp_int e)⟩)
        | (obtain ⟨a, vs, rfl, h1, h2, _⟩ := pa.tup e
           exact ⟨_, _, rfl, .inr ⟨vs, sqT h1, h2.len⟩, q _ _ (res_flat rp_int e)⟩)
        | (obtain ⟨a, rfl, h1⟩ := pa.scr e
           exact ⟨_, _, rfl, .inl ⟨_, h1, by rw [List.length_map]⟩, q _ _ (res_flat rp_int e)⟩))
    | (split at h
       · rename_i hl
         cases h
         cases pa.str
         exact ⟨_, _, rfl, ⟨hl, rfl⟩, q _ _ (res_flat rp_int e)⟩
       · cases h))
theorem px_len (hm : X.mg "len" = none) (ha : PAs X y [e] ma) (hg : Gl X "len" := by rfl) (hs : starEach [e] X.env = (false, eval e X.env) :: starEach [] X.env := by rfl) : PX X y (.Call (.Name "len" p) [e] [] pos) (mCall (fn1 dLen) ma) :=
  px_blt call_len len_ok hg hm PySem.boot_len ha (he := hs) (hpl := by rfl)
def dInt : D → Option Tk
  | .int i => some (.val (.int i))
  | .bl b => some (.val (.int (if b then 1 else 0)))
  | _ => none
theorem int_ok : OpN X y (fn1 dInt) (fun xs H Q => (∃ i, xs = [.int i] ∧ Q (.int i) H) ∨ ∃ k, xs = [.bl k] ∧ Q (.int (if k then 1 else 0)) H) := op1N (by
  intro Hk H d v t Q e h pa q
  cases d <;> simp only [dInt] at h <;> first
    | (cases h; done)
    | (cases h; cases pa.int; exact .inl ⟨_, rfl, q _ _ (res_flat rp_int e)⟩)
    | (cases h; cases pa.bl; exact .inr ⟨_, rfl, q _ _ (res_flat rp_int e)⟩))
def dAbs : D → Option Tk
  | .int i => some (.val (.int (if i < 0 then -i else i)))
  | _ => none
theorem abs_ok : OpN X y (fn1 dAbs) (fun xs H Q => ∃ i, xs = [.int i] ∧ Q (.int (if i < 0 then -i else i)) H) := op1N (by
  intro Hk H d v t Q e h pa q
  cases d <;> simp only [dAbs] at h <;> first
    | (cases h; done)
    | (cases h; cases pa.int; exact ⟨_, rfl, q _ _ (res_flat rp_int e)⟩))
def dMax : D → D → Option Tk := dI (fun _ _ => true) fun i j => .int (if j > i then j else i)
def dMin : D → D → Option Tk := dI (fun _ _ => true) fun i j => .int (if j < i then j else i)
theorem max_ok : OpN X y (fn2 dMax) (fun xs H Q => ∃ i j, xs = [.int i, .int j] ∧ Q (.int (if j > i then j else i)) H) := op2N (by
  intro Hk H a b v w t Q e h pa pb q
  obtain ⟨i, j, rfl, rfl, h3⟩ := dI0_ok (y := y) (X := X) (g' := fun i j => .int (if j > i then j else i)) (fun _ _ _ => rp_int) Hk H a b v w t Q e h pa pb q
  exact ⟨i, j, rfl, h3⟩)
theorem min_ok : OpN X y (fn2 dMin) (fun xs H Q => ∃ i j, xs = [.int i, .int j] ∧ Q (.int (if j < i then j else i)) H) := op2N (by
  intro Hk H a b v w t Q e h pa pb q
  obtain ⟨i, j, rfl, rfl, h3⟩ := dI0_ok (y := y) (X := X) (g' := fun i j => .int (if j < i then j else i)) (fun _ _ _ => rp_int) Hk H a b v w t Q e h pa pb q
  exact ⟨i, j, rfl, h3⟩)
theorem rpl_ints {C : Ct} {H : Hp} : ∀ {ns : List Int} {vs : List V}, RpL C H (ns.map D.int) vs → vs = ns.map V.int
  | [], _, h => by unfold RpL at h; exact h
  | n :: ns, _, h => by
    obtain ⟨v, r, rfl, h1, h2⟩ := h.inv
    unfold Rp at h1
    subst h1
    rw [rpl_ints h2]
    rfl
theorem ints_rpl {C : Ct} {H : Hp} : ∀ {ns : List Int}, RpL C H (ns.map D.int) (ns.map V.int)
  | [] => RpL.nil
  | n :: ns => .cons rp_int ints_rpl
theorem rpl_bls {C : Ct} {H : Hp} : ∀ {ns : List Bool} {vs : List V}, RpL C H (ns.map D.bl) vs → vs = ns.map V.bl
  | [], _, h => by unfold RpL at h; exact h
  | n :: ns, _, h => by
    obtain ⟨v, r, rfl, h1, h2⟩ := h.inv
    unfold Rp at h1
    subst h1
    rw [rpl_bls h2]
    rfl
/-- a list of ints, of truths -/
def toInts : List D → Option (List Int)
  | [] => some []
  | .int i :: r => (toInts r).map (i :: ·)
  | _ :: _ => none
def toBls : List D → Option (List Bool)
  | [] => some []
  | .bl i :: r => (toBls r).map (i :: ·)
  | _ :: _ => none
theorem toInts_eq : ∀ {xs : List D} {ns : List Int}, toInts xs = some ns → xs = ns.map D.int
  | [], _, h => by cases h; rfl
  | d :: ds, ns, h => by
    cases d <;> simp only [toInts] at h <;> first
      | (cases h; done)
      | (cases z : toInts ds with
         | none => rw [z] at h; cases h
         | some ms => rw [z] at h; cases h; rw [toInts_eq z]; rfl)
theorem toBls_eq : ∀ {xs : List D} {ns : List Bool}, toBls xs = some ns → xs = ns.map D.bl
  | [], _, h => by cases h; rfl
  | d :: ds, ns, h => by
    cases d <;> simp only [toBls] at h <;> first
      | (cases h; done)
      | (cases z : toBls ds with
         | none => rw [z] at h; cases h
         | some ms => rw [z] at h; cases h; rw [toBls_eq z]; rfl)
theorem toInts_map (ns : List Int) : toInts (ns.map D.int) = some ns := by
  induction ns with
  | nil => rfl
  | cons n ns ih => show (toInts (ns.map D.int)).map (n :: ·) = _; rw [ih]; rfl
theorem toBls_map (ns : List Bool) : toBls (ns.map D.bl) = some ns := by
  induction ns with
  | nil => rfl
  | cons n ns ih => show (toBls (ns.map D.bl)).map (n :: ·) = _; rw [ih]; rfl
def dSum : D → Option Tk
  | .lst xs => (toInts xs).map fun ns => .val (.int ns.sum)
  | _ => none
theorem sum_ok : OpN X y (fn1 dSum) (rSum X.K) := op1N (by
  intro Hk H d v t Q e h pa q
  cases d <;> simp only [dSum] at h <;> first
    | (cases h; done)
    | (rename_i xs
       cases z : toInts xs with
       | none => rw [z] at h; cases h
       | some ns =>
         rw [z] at h
         cases h
         obtain ⟨a, vs, rfl, h1, h2⟩ := pa.lst e
         rw [toInts_eq z] at h2
         rw [rpl_ints h2] at h1
         exact ⟨a, ns, rfl, sqL h1, q _ _ (res_flat rp_int e)⟩))
def dAny : D → Option Tk
  | .lst xs => (toBls xs).map fun ns => .val (.bl (ns.any id))
  | _ => none
def dAll : D → Option Tk
  | .lst xs => (toBls xs).map fun ns => .val (.bl (ns.all id))
  | _ => none
theorem any_ok : OpN X y (fn1 dAny) (rAny X.K) := op1N (by
  intro Hk H d v t Q e h pa q
  cases d <;> simp only [dAny] at h <;> first
    | (cases h; done)
    | (rename_i xs
       cases z : toBls xs with
       | none => rw [z] at h; cases h
       | some ns =>
         rw [z] at h
         cases h
         obtain ⟨a, vs, rfl, h1, h2⟩ := pa.lst e
         rw [toBls_eq z] at h2
         rw [rpl_bls h2] at h1
         exact ⟨a, ns, rfl, sqL h1, q _ _ (res_flat rp_bl e)⟩))
theorem all_ok : OpN X y (fn1 dAll) (rAll X.K) := op1N (by
  intro Hk H d v t Q e h pa q
  cases d <;> simp only [dAll] at h <;> first
    | (cases h; done)
    | (rename_i xs
       cases z : toBls xs with
       | none => rw [z] at h; cases h
       | some ns =>
         rw [z] at h
         cases h
         obtain ⟨a, vs, rfl, h1, h2⟩ := pa.lst e
         rw [toBls_eq z] at h2
         rw [rpl_bls h2] at h1
         exact ⟨a, ns, rfl, sqL h1, q _ _ (res_flat rp_bl e)⟩))
def dTuple : D → Option Tk
  | .lst xs => some (.val (.tup xs))
  | .tup xs => some (.val (.tup xs))
  | _ => none
theorem tuple_ok : OpN X y (fn1 dTuple) (fun xs H Q => ∃ p ys, xs = [.ref p] ∧ ((SqL X.K H p ys ∧ ∀ l, H l = none → Q (.ref l) (upd H l (.tup ys))) ∨ (SqT X.K H p ys ∧ Q (.ref p) H))) := op1N (by
  intro Hk H d v t Q e h pa q
  cases d <;> simp only [dTuple] at h <;> first
    | (cases h; done)
    | (cases h
       first
        | (obtain ⟨a, vs, rfl, h1, h2⟩ := pa.lst e
           exact ⟨a, vs, rfl, .inl ⟨sqL h1, fun l hl => q _ _ (res_tup e hl h2)⟩⟩)
        | (obtain ⟨a, vs, rfl, h1, h2, h3⟩ := pa.tup e
           exact ⟨a, vs, rfl, .inr ⟨sqT h1, q _ _ (res_flat h3 e)⟩⟩)))
def dList : D → Option Tk
  | .lst xs => some (.new (.lst xs))
  | .tup xs => some (.new (.lst xs))
  | .scr ns => some (.new (.lst (ns.map .int)))
  | _ => none
theorem list_ok : OpN X y (fn1 dList) (fun xs H Q => ∃ p ys, xs = [.ref p] ∧ (SqL X.K H p ys ∨ SqT X.K H p ys) ∧ ∀ l, H l = none → Q (.ref l) (upd H l (.lst ys))) := op1N (by
  intro Hk H d v t Q e h pa q
  cases d <;> simp only [dList] at h <;> first
    | (cases h; done)
    | (cases h
       first
        | (obtain ⟨a, vs, rfl, h1, h2⟩ := pa.lst e
           exact ⟨a, vs, rfl, .inl (sqL h1), fun l hl => q _ _ (res_lst hl h2)⟩)
        | (obtain ⟨a, vs, rfl, h1, h2, h3⟩ := pa.tup e
           exact ⟨a, vs, rfl, .inr (sqT h1), fun l hl => q _ _ (res_lst hl h2)⟩)
        | (obtain ⟨a, rfl, h1⟩ := pa.scr e
           exact ⟨a, _, rfl, .inl h1, fun l hl => q _ _ (res_lst hl ints_rpl)⟩)))
end

/-! ### items and slices -/
section
variable {X : Cx} {y : Y} {a b c e : Expr} {m m1 m2 m3 : M Tk} {pos p p2 : Pos}
def dIx : D → D → Option Tk
  | .lst xs, .int i => (atI xs i).map .val
  | .tup xs, .int i => (atI xs i).map .val
  | .tupf xs, .int i => (atI xs i).map .val
  | .scr ns, .int i => (atI ns i).map fun n => .val (.int n)
  | .str s, .int i => if s.length ≤ sizeLine then (atI s.cps.toList i).map fun c => .val (.str ⟨#[c]⟩) else none
  | _, _ => none
theorem atI_rpl {C : Ct} {H : Hp} {xs : List D} {vs : List V} {i : Int} {d : D} (h : RpL C H xs vs) (e : atI xs i = some d) : ∃ v, atI vs i = some v ∧ Rp C H d v := by
  unfold atI at e ⊢
  rw [← h.len]
  cases z : ixN xs.length i with
  | none => rw [z] at e; cases e
  | some j => rw [z] at e; exact h.get e
theorem atI_map {α β : Type} (f : α → β) (xs : List α) (i : Int) : atI (xs.map f) i = (atI xs i).map f := by
  unfold atI
  rw [List.length_map]
  cases ixN xs.length i with
  | none => rfl
  | some j => simp
theorem ix_ok : Op2 X y dIx (rIx X.K) := by
  intro Hk H a b v w t Q e h pa pb q
  cases a <;> cases b <;> simp only [dIx] at h <;> first
    | (cases h; done)
    | (cases pb.int
       first
        | (obtain ⟨p, vs, rfl, h1, h2⟩ := pa.lst e
           rename_i xs i
           cases z : atI xs i with
           | none => rw [z] at h; cases h
           | some d =>
             rw [z] at h
             cases h
             obtain ⟨x, hx, rx⟩ := atI_rpl h2 z
             exact .inl ⟨p, vs, _, x, rfl, rfl, sqL h1, hx, q _ _ (res_flat rx e)⟩)
        | (obtain ⟨p, o, vs, rfl, h1, h4, h5, h2⟩ := pa.tupf e
           rename_i xs i
           cases z : atI xs i with
           | none => rw [z] at h; cases h
           | some d =>
             rw [z] at h
             cases h
             obtain ⟨x, hx, rx⟩ := atI_rpl h2 z
             exact .inr (.inl ⟨p, vs, _, x, rfl, rfl, .inl (.inr ⟨o, h1⟩), hx, q _ _ (res_flat rx e)⟩))
        | (obtain ⟨p, vs, rfl, h1, h2, h3⟩ := pa.tup e
           rename_i xs i
           cases z : atI xs i with
           | none => rw [z] at h; cases h
           | some d =>
             rw [z] at h
             cases h
             obtain ⟨x, hx, rx⟩ := atI_rpl h2 z
             exact .inr (.inl ⟨p, vs, _, x, rfl, rfl, sqT h1, hx, q _ _ (res_flat rx e)⟩))
        | (obtain ⟨p, rfl, h1⟩ := pa.scr e
           rename_i xs i
           cases z : atI xs i with
           | none => rw [z] at h; cases h
           | some d =>
             rw [z] at h
             cases h
             exact .inl ⟨p, _, _, _, rfl, rfl, h1, by rw [atI_map, z]; rfl, q _ _ (res_flat rp_int e)⟩)
        | (cases pa.str
           rename_i s i
           split at h
           · rename_i hl
             cases z : atI s.cps.toList i with
             | none => rw [z] at h; cases h
             | some d =>
               rw [z] at h
               cases h
               exact .inr (.inr ⟨s, i, d, rfl, rfl, hl, z, q _ _ (res_flat rp_str e)⟩)
           · cases h))
theorem px_ix (ha : PX X y a m1) (hb : PX X y b m2) (hs : PlainIx b := by exact fun _ _ => rfl) : PX X y (.Subscript a b pos) (mBin dIx m1 m2) :=
  ⟨PE_imp (pe_ix ix_seq ha.pe hb.pe hs) fun _ _ _ h => t_bin ix_ok h⟩
/-- a bound of a slice -/
def mPart (m : Option (M Tk)) : M (Option Int) := match m with
  | none => fun env => .ok none env
  | some m => mBind m fun t env => match look t env with
    | some (.int i) => .ok (some i) env
    | _ => .bad
def PoO (C : Ct) (xa : Xa) (W : WX) (G : Hp) (σ : L2.St) (Hk : Hp) (r : Rs (Option Int)) (Q : Option Int → Hp → Prop) : Prop := match r with
  | .ok o e => ∀ Hk' H', Kx G Hk Hk' → RE C xa G e σ Hk' H' → Q o H'
  | .ex c ns ds e => PoX C xa W G σ Hk c ns ds e
  | .bad => False
theorem PoO.kx {C : Ct} {xa : Xa} {W : WX} {G : Hp} {σ : L2.St} {Hk Hk' : Hp} {r : Rs (Option Int)} {Q : Option Int → Hp → Prop} (k : Kx G Hk Hk') (h : PoO C xa W G σ Hk r Q) : PoO C xa W G σ Hk' r Q := by
  cases r with
  | ok t e => exact fun H2 H' k2 => h H2 H' (k.trans k2)
  | ex c ns ds e => exact PoX.kx k h
  | bad => exact h
def tP (X : Cx) (y : Y) (m : M (Option Int)) : TO := fun σ H Q => ∃ env Hk G, RE (y.ct X) y.xa G env σ Hk H ∧ PoO (y.ct X) y.xa y.W G σ Hk (m env) Q
structure PPt (X : Cx) (y : Y) (e : Option Expr) (m : M (Option Int)) : Prop where
  po : PO X e (tP X y m)
theorem PO_imp {e : Option Expr} {t t' : TO} (h : PO X e t) (f : ∀ σ H Q, t' σ H Q → t σ H Q) : PO X e t' := ⟨fun pins s σ H Q I q => h.run pins s σ H Q I (f σ H Q q)⟩
theorem pp_none : PPt X y none (mPart none) := ⟨PO_imp po_none fun σ H Q ⟨env, Hk, G, re, q⟩ => q Hk H (Kx.refl _ _) re⟩
theorem pp_some (h : PX X y e m) : PPt X y (some e) (mPart (some m)) := ⟨PO_imp (po_some h.pe) fun σ H Q ⟨env, Hk, G, re, q⟩ => by
  refine ⟨env, Hk, G, re, ?_⟩
  unfold mPart mBind at q
  dsimp only at q
  cases z : m env with
  | ok t e1 =>
    rw [z] at q
    dsimp only at q
    intro v Hk' H' k' r' rt
    cases z2 : look t e1 with
    | none => rw [z2] at q; exact q.elim
    | some d =>
      rw [z2] at q
      cases d with
      | int i => exact ⟨i, (rt.look r' z2).int, q Hk' H' k' r'⟩
      | _ => exact q.elim
  | ex c ns ds e1 => rw [z] at q; exact q
  | bad => rw [z] at q; exact q⟩
def cutD (xs : List D) (lo hi : Option Int) : List D := (xs.drop (HT.sIx xs.length 0 lo)).take (HT.sIx xs.length xs.length hi - HT.sIx xs.length 0 lo)
theorem cut_rpl {C : Ct} {H : Hp} {xs : List D} {vs : List V} (h : RpL C H xs vs) (lo hi : Option Int) : RpL C H (cutD xs lo hi) (cutV vs lo hi) := by
  unfold cutD cutV
  rw [← h.len]
  exact (h.drop _).take _
def dSl (d : D) (lo hi : Option Int) : Option Tk := match d with
  | .lst xs => some (.new (.lst (cutD xs lo hi)))
  | .tup xs => some (.val (.tup (cutD xs lo hi)))
  | _ => none
def mSlice (m : M Tk) (ml mh : M (Option Int)) : M Tk := mBind m fun t => mBind ml fun lo => mBind mh fun hi env => match look t.settle env with
  | some d => mOf (dSl d lo hi) env
  | none => .bad
theorem sIx_whole {α : Type} (xs : List α) (lo hi : Option Int) (h : HT.sIx xs.length 0 lo = 0 ∧ HT.sIx xs.length xs.length hi = xs.length) : (xs.drop (HT.sIx xs.length 0 lo)).take (HT.sIx xs.length xs.length hi - HT.sIx xs.length 0 lo) = xs := by
  rw [h.1, h.2]
  simp
theorem sl_ok (Hk H : Hp) (d : D) (v : V) (lo hi : Option Int) (t : Tk) (Q : VK) (e : Ex Hk H) (h : dSl d lo hi = some t) (pa : Pk (y.ct X) Hk H d v) (q : ∀ z H', Res (y.ct X) Hk H t z H' → Q z H') : rSlL X.K v lo hi H Q ∨ rSlA X.K v lo hi H Q := by
  cases d <;> simp only [dSl] at h <;> first
    | (cases h; done)
    | (cases h
       first
        | (obtain ⟨p, vs, rfl, h1, h2⟩ := pa.lst e
           exact .inl ⟨p, vs, rfl, sqL h1, fun l hl => q _ _ (res_lst hl (cut_rpl h2 lo hi))⟩)
        | (obtain ⟨p, vs, rfl, h1, h2, h3⟩ := pa.tup e
           refine .inr ⟨p, vs, rfl, sqT h1, fun z => ?_, fun _ l hl => q _ _ (res_tup e hl (cut_rpl h2 lo hi))⟩
           have z' := sIx_whole _ lo hi (by rw [h2.len]; exact z)
           unfold cutD at q
           rw [z'] at q
           exact q _ _ (res_flat h3 e)))
theorem px_slice {lo hi : Option Expr} {ml mh : M (Option Int)} (ha : PX X y a m) (hl : PPt X y lo ml) (hh : PPt X y hi mh) : PX X y (.Subscript a (.Slice lo hi none p2) pos) (mSlice m ml mh) :=
  ⟨PE_imp (pe_slice (sl_list.or sl_tupA) ha.pe hl.po hh.po) fun σ H Q ⟨env, Hk, G, re, q⟩ => ⟨env, Hk, G, re, po_bind q fun t e1 v Hk1 H1 k1 r1 rt1 q1 => by
    obtain ⟨Hk1', k1', r1', rv1⟩ := rt1.settle r1
    have q1 := q1.kx k1'
    refine ⟨e1, Hk1', G, r1', ?_⟩
    unfold mBind at q1
    cases z : ml e1 with
    | ok lo e2 =>
      rw [z] at q1
      intro Hk2 H2 k2 r2
      refine ⟨e2, Hk2, G, r2, ?_⟩
      dsimp only at q1
      cases z2 : mh e2 with
      | ok hi e3 =>
        rw [z2] at q1
        intro Hk3 H3 k3 r3
        dsimp only at q1
        have rt := ((rv1.kx (k2.trans k3)).rt (G := G) (env := e3) (H := H3))
        cases z3 : look t.settle e3 with
        | none => rw [z3] at q1; exact q1.elim
        | some d =>
          rw [z3] at q1
          dsimp only at q1
          unfold mOf at q1
          cases z4 : dSl d lo hi with
          | none => rw [z4] at q1; exact q1.elim
          | some tk =>
            rw [z4] at q1
            refine sl_ok (y := y) Hk3 H3 d v lo hi tk Q r3.hk z4 (rt.look r3 z3) fun z H' hz => ?_
            obtain ⟨Hk', k', r', rz⟩ := r3.res hz
            exact q1 z Hk' H' ((k2.trans k3).trans k') r' rz
      | ex c ns ds e3 => rw [z2] at q1; exact PoX.kx k2 q1
      | bad => rw [z2] at q1; exact q1
    | ex c ns ds e2 => rw [z] at q1; exact q1
    | bad => rw [z] at q1; exact q1⟩⟩
/-! ### in -/
def D.inD (x : D) : List D → Bool
  | [] => false
  | d :: ds => D.eq d x || D.inD x ds
def isFlat : D → Bool
  | .non | .bl _ | .int _ => true
  | .str _ => true
  | _ => false
end
end VM

set_option Elab.async false
set_option linter.all false
set_option maxRecDepth 100000
set_option maxHeartbeats 1000000
/-! VM 5: in, chains, isinstance; calls of the text's own defs -/
namespace VM
open PySem PySem.Spec PyProof.Rows L2
section
variable {X : Cx} {y : Y} {a b c e : Expr} {es : List Expr} {m m1 m2 m3 : M Tk} {ma : M (List Tk)} {pos p p2 : Pos}
/-! ### in -/
def fl : D → Bool
  | .non | .bl _ | .int _ | .str _ => true
  | _ => false
def flEq : D → D → Bool
  | .non, .non => true
  | .bl a, .bl b => a == b
  | .bl a, .int b => (if a then 1 else 0) == b
  | .int a, .bl b => a == (if b then 1 else 0)
  | .int a, .int b => a == b
  | .str a, .str b => a == b
  | _, _ => false
theorem fl_v {C : Ct} {H : Hp} {d : D} {v : V} (f : fl d = true) (h : Rp C H d v) : flatV v = true := by
  cases d <;> first | (cases f; done) | (unfold Rp at h; subst h; rfl)
theorem flEq_v {C : Ct} {H : Hp} {d d' : D} {v v' : V} (f : fl d = true) (f' : fl d' = true) (h : Rp C H d v) (h' : Rp C H d' v') : eqV v v' = flEq d d' := by
  cases d <;> cases d' <;> first | (cases f; done) | (cases f'; done) | (unfold Rp at h h'; subst h h'; rfl)
theorem fl_all {C : Ct} {H : Hp} : ∀ {ds : List D} {vs : List V}, ds.all fl = true → RpL C H ds vs → vs.all flatV = true
  | [], _, _, h => by unfold RpL at h; subst h; rfl
  | d :: ds, _, f, h => by
    obtain ⟨v, r, rfl, h1, h2⟩ := h.inv
    rw [List.all_cons, Bool.and_eq_true] at f
    rw [List.all_cons, fl_v f.1 h1, fl_all f.2 h2]
    rfl
theorem in_v {C : Ct} {H : Hp} {x : D} {v : V} (fx : fl x = true) (hx : Rp C H x v) : ∀ {ds : List D} {vs : List V}, ds.all fl = true → RpL C H ds vs → inV v vs = ds.any fun d => flEq d x
  | [], _, _, h => by unfold RpL at h; subst h; rfl
  | d :: ds, _, f, h => by
    obtain ⟨w, r, rfl, h1, h2⟩ := h.inv
    rw [List.all_cons, Bool.and_eq_true] at f
    have ih := in_v fx hx f.2 h2
    unfold inV at ih ⊢
    rw [List.any_cons, List.any_cons, flEq_v f.1 fx h1 hx, ih]
def cInS (x : D) (xs : List D) : Option Bool := if fl x = true ∧ xs.all fl = true then some (xs.any fun d => flEq d x) else none
/-- in a list or tuple of flat things; in a list of any plain data -/
def cIn : D → D → Option Bool
  | x, .tup xs => cInS x xs
  | x, .lst xs => if fl x = true ∧ xs.all fl = true then some (xs.any fun d => flEq d x) else if x.pl 64 = true ∧ (D.lst xs).pl 64 = true then some (xs.any fun d => D.eq d x) else none
  | _, _ => none
def cNotIn (x y : D) : Option Bool := (cIn x y).map (!·)
theorem py_any (x : D) : ∀ xs : List D, ((pyL xs).any fun z => PyData.eqv z x.py) = xs.any fun d => D.eq d x
  | [] => rfl
  | d :: ds => by
    show (PyData.eqv d.py x.py || (pyL ds).any _) = _
    rw [py_any x ds]
    rfl
def rInG (K : PySem.W.Frag) : R2 := fun x y H Q => rIn K false x y H Q ∨ rInD K x y H Q
def rNotInG (K : PySem.W.Frag) : R2 := fun x y H Q => rIn K true x y H Q ∨ rNotInD K x y H Q
theorem cIn_go {Hk H : Hp} {x z : D} {v w : V} {k : Bool} (e : Ex Hk H) (px : Pk (y.ct X) Hk H x v) (pz : Pk (y.ct X) Hk H z w) (h : cIn x z = some k) (neg : Bool) (Q : VK) (q : Q (.bl (if neg then !k else k)) H) :
    rIn X.K neg v w H Q ∨ ∃ d ds, Dp X.K H v d ∧ Dp X.K H w (.list ds) ∧ SeqAt.shaped d = true ∧ SeqAt.shaped (.list ds) = true ∧ (ds.any fun z => PyData.eqv z d) = k := by
  have flat : ∀ xs : List D, ∀ vs : List V, fl x = true ∧ xs.all fl = true → RpL (y.ct X) Hk xs vs → k = (xs.any fun d => flEq d x) → ∀ p, (SqL X.K H p vs ∨ SqT X.K H p vs) → w = .ref p → rIn X.K neg v w H Q := fun xs vs hc h2 hk p hs hw => by
    have rx := px.all e
    have r2 := h2.mono e
    refine ⟨p, vs, hw, hs, fl_v hc.1 rx, fl_all hc.2 r2, ?_⟩
    rw [in_v hc.1 rx hc.2 r2, ← hk]
    exact q
  cases z with
  | tup xs =>
    have h : cInS x xs = some k := h
    unfold cInS at h
    split at h
    · rename_i hc
      cases h
      obtain ⟨p, vs, rfl, h1, h2, _⟩ := pz.tup e
      exact .inl (flat xs vs hc h2 rfl p (.inr (sqT h1)) rfl)
    · cases h
  | lst xs =>
    simp only [cIn] at h
    split at h
    · rename_i hc
      cases h
      obtain ⟨p, vs, rfl, h1, h2⟩ := pz.lst e
      exact .inl (flat xs vs hc h2 rfl p (.inl (sqL h1)) rfl)
    · split at h
      · rename_i hc
        cases h
        exact .inr ⟨x.py, pyL xs, dp_of 64 x v hc.1 (px.all e), dp_of 64 (.lst xs) w hc.2 (pz.all e), pl_shaped hc.1, pl_shaped hc.2, py_any x xs⟩
      · cases h
  | _ => cases h
theorem in_ok : Op2 X y (lift cIn) (rInG X.K) := by
  intro Hk H a b v w t Q e h pa pb q
  unfold lift at h
  cases z : cIn a b with
  | none => rw [z] at h; cases h
  | some k =>
    rw [z] at h
    cases h
    rcases cIn_go e pa pb z false Q (q _ _ (res_flat rp_bl e)) with h | ⟨d, ds, h1, h2, h3, h4, h5⟩
    · exact .inl h
    · exact .inr ⟨d, ds, h1, h2, h3, h4, by rw [h5]; exact q _ _ (res_flat rp_bl e)⟩
theorem notin_ok : Op2 X y (lift cNotIn) (rNotInG X.K) := by
  intro Hk H a b v w t Q e h pa pb q
  unfold lift cNotIn at h
  cases z : cIn a b with
  | none => rw [z] at h; cases h
  | some k =>
    rw [z] at h
    cases h
    rcases cIn_go e pa pb z true Q (q _ _ (res_flat rp_bl e)) with h | ⟨d, ds, h1, h2, h3, h4, h5⟩
    · exact .inl h
    · exact .inr ⟨d, ds, h1, h2, h3, h4, by rw [h5]; exact q _ _ (res_flat rp_bl e)⟩

/-! ### calls of the text's own defs -/
inductive Rf where
  | ok (nw : Bool) (d p : D) | ex (c : Nat) (ns : List Str) (ds : List D) (p : D) | bad
/-- what is handed back: known, or a new object -/
def Bk (C : Ct) (G Hk' H' : Hp) (nw : Bool) (d : D) (v : V) : Prop := if nw = true then ∃ a, v = .ref a ∧ Hk' a = none ∧ OwA C G Hk' H' a d else Rp C Hk' d v
def spF (C : Ct) (np : Nat) (F : List D → Rf) : Sp := fun vs H Q E => vs.length = np ∧ ∃ ds Hk, Ex Hk H ∧ RpL C Hk ds vs ∧ match F ds with
  | .ok nw d _ => ∀ v Hk' H', Kx H Hk Hk' → Ex Hk' H' → Ex H H' → Bk C H Hk' H' nw d v → Q v H'
  | .ex c ns xs _ => ∀ cls dd Hk' H', Kx H Hk Hk' → Ex Hk' H' → Ex H H' → RpX C Hk' H' c ns xs cls dd → E cls dd H'
  | .bad => False
/-- the first argument's object may change: it is the caller's own -/
def spIO (C : Ct) (np : Nat) (F : List D → Rf) : Sp := fun vs H Q E => vs.length = np ∧ ∃ a vs' d0 ds Hk G, vs = .ref a :: vs' ∧ Ex G H ∧ Ex Hk H ∧ Hk a = none ∧ OwA C G Hk H a d0 ∧ RpL C Hk ds vs' ∧ match F (d0 :: ds) with
  | .ok nw d p => ∀ v Hk' H', Kx G Hk Hk' → Ex Hk' H' → Ex G H' → Hk' a = none → OwA C G Hk' H' a p → (nw = true → v ≠ .ref a) → Bk C G Hk' H' nw d v → Q v H'
  | .ex c ns xs p => ∀ cls dd Hk' H', Kx G Hk Hk' → Ex Hk' H' → Ex G H' → Hk' a = none → OwA C G Hk' H' a p → RpX C Hk' H' c ns xs cls dd → E cls dd H'
  | .bad => False

def tkOf (nw : Bool) (d : D) : Tk := if nw = true then .new d else .val d
/-- nothing of the arguments can be in it -/
def apart (nw : Bool) (d : D) : Bool := d.flat || (nw && match d with
  | .lst xs => xs.all D.flat
  | _ => false)
def mCallF (F : List D → Rf) (ma : M (List Tk)) : M Tk := mBind ma fun ts env => match lookAll ts env with
  | none => .bad
  | some ds => match F ds with
    | .ok nw d _ => if apart nw d = true then .ok (tkOf nw d) env else match forceAll ts env with
      | .ok _ e => .ok (tkOf nw d) e
      | _ => .bad
    | .ex c ns xs _ => if xs.all D.flat = true then .ex c ns xs env else match forceAll ts env with
      | .ok _ e => .ex c ns xs e
      | _ => .bad
    | .bad => .bad
theorem look_set {t : Tk} {env : Env} {k : Nat} {d : D} (h : env[k]? = some (.ow d)) : look t (env.set k (.sh d)) = look t env := by
  cases t with
  | val _ => rfl
  | new _ => rfl
  | slot j =>
    unfold look
    dsimp only
    by_cases q : k = j
    · subst q
      obtain ⟨hl, _⟩ := List.getElem?_eq_some_iff.mp h
      rw [List.getElem?_set_self hl, h]
    · rw [List.getElem?_set_ne q]
theorem look_force {t : Tk} {env : Env} {d : D} (h : look t env = some d) : ∃ e, force t env = .ok d e ∧ ∀ u, look u e = look u env := by
  cases t with
  | val x => cases h; exact ⟨env, rfl, fun _ => rfl⟩
  | new x => cases h; exact ⟨env, rfl, fun _ => rfl⟩
  | slot k =>
    unfold look at h
    unfold force
    dsimp only at h ⊢
    split at h
    · next x hx => cases h; exact ⟨env, rfl, fun _ => rfl⟩
    · next x hx => cases h; exact ⟨_, rfl, fun u => look_set hx⟩
    · cases h
theorem lookAll_force : ∀ {ts : List Tk} {env : Env} {ds : List D}, lookAll ts env = some ds → ∃ e, forceAll ts env = .ok ds e
  | [], env, ds, h => by cases h; exact ⟨env, rfl⟩
  | t :: ts, env, ds, h => by
    unfold lookAll at h
    cases z1 : look t env with
    | none => rw [z1] at h; cases h
    | some d =>
      cases z2 : lookAll ts env with
      | none => rw [z1, z2] at h; cases h
      | some ds' =>
        rw [z1, z2] at h
        cases h
        obtain ⟨e1, f1, l1⟩ := look_force z1
        have same : ∀ us : List Tk, lookAll us e1 = lookAll us env := by
          intro us
          induction us with
          | nil => rfl
          | cons u us ih => unfold lookAll; rw [l1, ih]
        obtain ⟨e2, f2⟩ := lookAll_force (env := e1) ((same ts).trans z2)
        exact ⟨e2, by unfold forceAll; rw [f1]; dsimp only; rw [f2]⟩
theorem rpl_flat {C : Ct} {H H' : Hp} : ∀ {ds : List D} {vs : List V}, ds.all D.flat = true → RpL C H ds vs → RpL C H' ds vs
  | [], _, _, h => by unfold RpL at h ⊢; exact h
  | d :: ds, _, f, h => by
    obtain ⟨v, r, rfl, h1, h2⟩ := h.inv
    rw [List.all_cons, Bool.and_eq_true] at f
    exact .cons (rp_flat f.1 h1) (rpl_flat f.2 h2)
/-- behind a call: what it handed back, seen by the caller -/
theorem RE.back {C : Ct} {xa : Xa} {G : Hp} {env : Env} {σ : L2.St} {Hk Hk' H H' : Hp} (r : RE C xa G env σ Hk H) (k : Kx H Hk Hk') (e1 : Ex Hk' H') (e2 : Ex H H') : RE C xa G env σ Hk' H' ∧ Kx G Hk Hk' := by
  refine ⟨(r.ext e2).know k.ex e1 fun i d a hi hs => ?_, k.ex, fun b o h1 h2 => r.g.back (k.new b o h1 h2)⟩
  obtain ⟨g1, g2⟩ := r.owAt hi hs
  cases z : Hk' a with
  | none => rfl
  | some o =>
    obtain ⟨u, hu, _⟩ := g2.at
    rw [k.new a o z g1] at hu
    cases hu
theorem bk_rt {C : Ct} {xa : Xa} {G : Hp} {env : Env} {σ : L2.St} {Hk Hk' H H' : Hp} {nw : Bool} {d : D} {v : V} (r : RE C xa G env σ Hk H) (b : Bk C H Hk' H' nw d v) : RT C G env σ Hk' H' (tkOf nw d) v := by
  cases nw with
  | false => exact b
  | true =>
    obtain ⟨a, rfl, h1, h2⟩ := b
    refine ⟨a, rfl, h1, h2.gmono r.g, fun i d' hi hs => ?_⟩
    obtain ⟨g1, g2⟩ := r.owAt hi hs
    obtain ⟨u, hu, _⟩ := g2.at
    rw [h2.g] at hu
    cases hu
theorem bk_apart {C : Ct} {xa : Xa} {G : Hp} {env : Env} {σ : L2.St} {Hk Hk' H H' : Hp} {nw : Bool} {d : D} {v : V} (r : RE C xa G env σ Hk H) (ap : apart nw d = true) (b : Bk C H Hk' H' nw d v) : RT C G env σ Hk H' (tkOf nw d) v := by
  unfold apart at ap
  rw [Bool.or_eq_true] at ap
  cases nw with
  | false =>
    have f : d.flat = true := by
      rcases ap with f | f
      · exact f
      · simp at f
    exact rp_flat f b
  | true =>
    obtain ⟨a, rfl, h1, h2⟩ := b
    have hn : Hk a = none := r.hk.back h2.g
    refine ⟨a, rfl, hn, ?_, fun i d' hi hs => ?_⟩
    · cases d with
      | lst xs =>
        have f : xs.all D.flat = true := by
          rcases ap with f | f
          · cases f
          · simpa using f
        obtain ⟨g, vs, z1, z2⟩ := h2
        exact ⟨r.g.back g, vs, z1, rpl_flat f z2⟩
      | ins c ns xs =>
        rcases ap with f | f
        · cases f
        · simp at f
      | dic ks xs =>
        rcases ap with f | f
        · cases f
        · simp at f
      | _ => exact h2.elim
    · obtain ⟨g1, g2⟩ := r.owAt hi hs
      obtain ⟨u, hu, _⟩ := g2.at
      rw [h2.g] at hu
      cases hu
theorem rpx_flat {C : Ct} {Hk Hk' H : Hp} {c : Nat} {ns : List Str} {ds : List D} {cls : Value} {dd : Option Addr} (f : ds.all D.flat = true) (h : RpX C Hk H c ns ds cls dd) : RpX C Hk' H c ns ds cls dd := by
  obtain ⟨h1, h | ⟨d, vs, h2, h3, h4, h5⟩⟩ := h
  · exact ⟨h1, .inl h⟩
  · exact ⟨h1, .inr ⟨d, vs, h2, h3, h4, rpl_flat f h5⟩⟩
/-- the callee's promise serves the call -/
theorem callF_go {F : List D → Rf} {np : Nat} {ts : List Tk} {e : Env} {σ : L2.St} {Hk G H : Hp} {vs : List V} {Q : VK} (re : RE (y.ct X) y.xa G e σ Hk H) (rs : RVs (y.ct X) σ Hk ts vs) (hn : vs.length = np)
    (q : PoE (y.ct X) y.xa y.W G σ Hk (match lookAll ts e with
      | none => .bad
      | some ds => match F ds with
        | .ok nw d _ => if apart nw d = true then .ok (tkOf nw d) e else match forceAll ts e with
          | .ok _ e => .ok (tkOf nw d) e
          | _ => .bad
        | .ex c ns xs _ => if xs.all D.flat = true then .ex c ns xs e else match forceAll ts e with
          | .ok _ e => .ex c ns xs e
          | _ => .bad
        | .bad => .bad) Q) : spF (y.ct X) np F vs H Q (WE y.W σ) := by
  cases z : lookAll ts e with
  | none => rw [z] at q; exact q.elim
  | some ds =>
    rw [z] at q
    dsimp only at q
    obtain ⟨e2, z2⟩ := lookAll_force z
    obtain ⟨Hk2, k2, r2, hl⟩ := RVs.force re rs z2
    refine ⟨hn, ds, Hk2, r2.hk, hl, ?_⟩
    cases z3 : F ds with
    | ok nw d p =>
      rw [z3] at q
      dsimp only at q ⊢
      intro v Hk' H' k1 x1 x2 b
      by_cases ap : apart nw d = true
      · rw [if_pos ap] at q
        exact q v Hk H' (Kx.refl _ _) (re.ext x2) (bk_apart re ap b)
      · rw [if_neg ap, z2] at q
        obtain ⟨r3, k3⟩ := r2.back k1 x1 x2
        exact q v Hk' H' (k2.trans k3) r3 (bk_rt r2 b)
    | ex c ns xs p =>
      rw [z3] at q
      dsimp only at q ⊢
      intro cls dd Hk' H' k1 x1 x2 b
      by_cases ap : xs.all D.flat = true
      · rw [if_pos ap] at q
        exact q cls dd Hk H' (Kx.refl _ _) (re.ext x2) (rpx_flat ap b)
      · rw [if_neg ap, z2] at q
        obtain ⟨r3, k3⟩ := r2.back k1 x1 x2
        exact q cls dd Hk' H' (k2.trans k3) r3 b
    | bad => rw [z3] at q; exact q.elim
variable {F : List D → Rf} {k : Nat} {f : Addr} {fd : FuncData} {ps : List Str} {x : Str}
theorem RVs.len {C : Ct} {σ : L2.St} {Hk : Hp} {ts : List Tk} {vs : List V} (h : RVs C σ Hk ts vs) : ts.length = vs.length := by
  induction h with
  | nil => rfl
  | cons _ _ ih => simp [ih]
/-- how many tokens an argument list makes -/
def Many (ma : M (List Tk)) (n : Nat) : Prop := ∀ env ts e, ma env = .ok ts e → ts.length = n
theorem many_nil : Many mNil 0 := fun env ts e h => by cases h; rfl
theorem many_cons {n : Nat} (h : Many ma n) : Many (mCons m ma) (n + 1) := fun env ts e z => by
  unfold mCons mBind at z
  cases z1 : m env with
  | ok t e1 =>
    rw [z1] at z
    dsimp only at z
    cases z2 : ma e1 with
    | ok ts' e2 => rw [z2] at z; cases z; simp [h _ _ _ z2]
    | ex c ns ds e2 => rw [z2] at z; cases z
    | bad => rw [z2] at z; cases z
  | ex c ns ds e1 => rw [z1] at z; cases z
  | bad => rw [z1] at z; cases z
/-- as pa_bind, with the number of tokens -/
theorem pa_bindN {n : Nat} (hm : Many ma n) {f : List Tk → M Tk} {env : Env} {G : Hp} {σ : L2.St} {Hk : Hp} {Q : VK} {R : List V → Hp → Prop} (q : PoE (y.ct X) y.xa y.W G σ Hk (mBind ma f env) Q)
    (k : ∀ ts e vs Hk' H1, Kx G Hk Hk' → RE (y.ct X) y.xa G e σ Hk' H1 → RVs (y.ct X) σ Hk' ts vs → ts.length = n → PoE (y.ct X) y.xa y.W G σ Hk' (f ts e) Q → R vs H1) : PoA (y.ct X) y.xa y.W G σ Hk (ma env) R := by
  unfold mBind at q
  cases e : ma env with
  | ok t e1 => rw [e] at q; exact fun v Hk' H' k' r' h' => k t e1 v Hk' H' k' r' h' (hm _ _ _ e) (q.kx k')
  | ex c ns ds e1 => rw [e] at q; exact q
  | bad => rw [e] at q; exact q
theorem px_call (FO : FnOk X.prog X.w X.K X.mg X.base (L2.CX X.prog X.w) k f fd ps (spF (y.ct X) ps.length F)) (hr : Room k X.A) (hm : X.mg x = some (.ref f)) (hk : PySem.W.keepIn X.K (.ref f) = true) (hb : Binds X.K fd ps []) (tk : Takes X y.W)
    (hn : Many ma ps.length) (ha : PAs X y (e :: es) ma) (hg : Gl X x := by rfl) (hdb : (x == ("__debug__" : Str)) = false := by decide) (he : starEach (e :: es) X.env = (false, eval e X.env) :: starEach es X.env := by rfl) (hpl : (backTo pos (starEach es X.env)).any (·.1) = false := by rfl) :
    PX X y (.Call (.Name x p) (e :: es) [] pos) (mCallF F ma) :=
  ⟨PE_imp (pe_callSD FO hr hg hm hk hb .nil (fun σ => passAt tk σ) ha.pa hdb he hpl) fun σ H Q ⟨env, Hk, G, re, q⟩ => ⟨env, Hk, G, re, pa_bindN hn q fun ts e vs Hk' H1 k1 r1 rs hl q1 => by
    rw [List.append_nil]
    exact callF_go r1 rs (by rw [← rs.len]; exact hl) q1⟩⟩
end
end VM

set_option Elab.async false
set_option linter.all false
set_option maxRecDepth 100000
set_option maxHeartbeats 1000000
/-! VM 6: statements, loops -/
namespace VM
open PySem PySem.Spec PyProof.Rows L2
inductive Fl where
  | nx | bk | ct | rt (t : Tk)
section
variable (C : Ct) (xa : Xa) (W : WX) (G : Hp) (Hk : Hp)
def PoXS (c : Nat) (ns : List Str) (ds : List D) (e : Env) : Prop := ∀ cls dd σ' Hk' H', Kx G Hk Hk' → RE C xa G e σ' Hk' H' → RpX C Hk' H' c ns ds cls dd → W cls dd σ' H'
def PoS (r : Rs Fl) (D : Ends) : Prop := match r with
  | .ok .nx e => ∀ σ' Hk' H', Kx G Hk Hk' → RE C xa G e σ' Hk' H' → D.nx σ' H'
  | .ok .bk e => ∀ σ' Hk' H', Kx G Hk Hk' → RE C xa G e σ' Hk' H' → D.bk σ' H'
  | .ok .ct e => ∀ σ' Hk' H', Kx G Hk Hk' → RE C xa G e σ' Hk' H' → D.ct σ' H'
  | .ok (.rt t) e => ∀ v σ' Hk' H', Kx G Hk Hk' → RE C xa G e σ' Hk' H' → RT C G e σ' Hk' H' t v → D.rt v H'
  | .ex c ns ds e => PoXS C xa W G Hk c ns ds e
  | .bad => False
end
theorem PoXS.kx {C : Ct} {xa : Xa} {W : WX} {G Hk Hk' : Hp} {c : Nat} {ns : List Str} {ds : List D} {e : Env} (k : Kx G Hk Hk') (h : PoXS C xa W G Hk c ns ds e) : PoXS C xa W G Hk' c ns ds e :=
  fun cls dd σ' H2 H' k2 => h cls dd σ' H2 H' (k.trans k2)
theorem PoXS.at {C : Ct} {xa : Xa} {W : WX} {G Hk : Hp} {c : Nat} {ns : List Str} {ds : List D} {e : Env} {σ : L2.St} (h : PoXS C xa W G Hk c ns ds e) : PoX C xa W G σ Hk c ns ds e :=
  fun cls dd Hk' H' => h cls dd σ Hk' H'
theorem PoS.kx {C : Ct} {xa : Xa} {W : WX} {G Hk Hk' : Hp} {r : Rs Fl} {D : Ends} (k : Kx G Hk Hk') (h : PoS C xa W G Hk r D) : PoS C xa W G Hk' r D := by
  cases r with
  | ok f e =>
    cases f with
    | nx => exact fun σ' H2 H' k2 => h σ' H2 H' (k.trans k2)
    | bk => exact fun σ' H2 H' k2 => h σ' H2 H' (k.trans k2)
    | ct => exact fun σ' H2 H' k2 => h σ' H2 H' (k.trans k2)
    | rt t => exact fun v σ' H2 H' k2 => h v σ' H2 H' (k.trans k2)
  | ex c ns ds e => exact PoXS.kx k h
  | bad => exact h
section
variable (X : Cx) (y : Y)
def tS (m : M Fl) : TS := fun D σ H => ∃ env Hk G, RE (y.ct X) y.xa G env σ Hk H ∧ PoS (y.ct X) y.xa y.W G Hk (m env) D
structure PSx (st : Stmt) (m : M Fl) : Prop where
  ps : PS X st (tS X y m)
structure PSSx (st : List Stmt) (m : M Fl) : Prop where
  pss : PSs X st (tS X y m)
end
section
variable {X : Cx} {y : Y} {a b c e : Expr} {st : Stmt} {sts sts2 : List Stmt} {m m1 m2 : M Tk} {n : M Bool} {f f1 f2 : M Fl} {pos p p2 : Pos}
/-- an expression, then a statement's rest -/
theorem ps_bind {g : Tk → M Fl} {env : Env} {G : Hp} {σ : L2.St} {Hk : Hp} {D : Ends} {R : VK} (q : PoS (y.ct X) y.xa y.W G Hk (mBind m g env) D)
    (k : ∀ t e v Hk' H1, Kx G Hk Hk' → RE (y.ct X) y.xa G e σ Hk' H1 → RT (y.ct X) G e σ Hk' H1 t v → PoS (y.ct X) y.xa y.W G Hk' (g t e) D → R v H1) : PoE (y.ct X) y.xa y.W G σ Hk (m env) R := by
  unfold mBind at q
  cases e : m env with
  | ok t e1 => rw [e] at q; exact fun v Hk' H' k' r' h' => k t e1 v Hk' H' k' r' h' (q.kx k')
  | ex c ns ds e1 => rw [e] at q; exact PoXS.at q
  | bad => rw [e] at q; exact q
theorem bs_bind {g : Bool → M Fl} {env : Env} {G : Hp} {σ : L2.St} {Hk : Hp} {D : Ends} {R : Bool → Hp → Prop} (q : PoS (y.ct X) y.xa y.W G Hk (mBind n g env) D)
    (k : ∀ t e Hk' H1, Kx G Hk Hk' → RE (y.ct X) y.xa G e σ Hk' H1 → PoS (y.ct X) y.xa y.W G Hk' (g t e) D → R t H1) : PoB (y.ct X) y.xa y.W G σ Hk (n env) R := by
  unfold mBind at q
  cases e : n env with
  | ok t e1 => rw [e] at q; exact fun Hk' H' k' r' => k t e1 Hk' H' k' r' (q.kx k')
  | ex c ns ds e1 => rw [e] at q; exact PoXS.at q
  | bad => rw [e] at q; exact q
def mNext : M Fl := fun env => .ok .nx env
def mSeq (f1 f2 : M Fl) : M Fl := fun env => match f1 env with
  | .ok .nx e => f2 e
  | r => r
theorem pssx_nil : PSSx X y [] mNext := ⟨PSs_imp pss_nil fun D σ H ⟨env, Hk, G, re, q⟩ => q σ Hk H (Kx.refl _ _) re⟩
theorem pssx_one (h : PSx X y st f) : PSSx X y [st] f := ⟨pss_one h.ps⟩
theorem pssx_cons (h : PSx X y st f1) (r : PSSx X y sts f2) : PSSx X y (st :: sts) (mSeq f1 f2) := by
  refine ⟨PSs_imp (pss_cons h.ps r.pss) fun D σ H ⟨env, Hk, G, re, q⟩ => ⟨env, Hk, G, re, ?_⟩⟩
  unfold mSeq at q
  cases z : f1 env with
  | ok fl e1 =>
    rw [z] at q
    cases fl with
    | nx => exact fun σ' Hk' H' k' r' => ⟨e1, Hk', G, r', q.kx k'⟩
    | bk => exact q
    | ct => exact q
    | rt t => exact q
  | ex c ns ds e1 => rw [z] at q; exact q
  | bad => rw [z] at q; exact q
theorem psx_pass : PSx X y (.Pass pos) mNext := ⟨PS_imp ps_pass fun D σ H ⟨env, Hk, G, re, q⟩ => q σ Hk H (Kx.refl _ _) re⟩
def mBreak : M Fl := fun env => .ok .bk env
def mCont : M Fl := fun env => .ok .ct env
theorem psx_break : PSx X y (.Break pos) mBreak := ⟨PS_imp ps_break fun D σ H ⟨env, Hk, G, re, q⟩ => q σ Hk H (Kx.refl _ _) re⟩
theorem psx_cont : PSx X y (.Continue pos) mCont := ⟨PS_imp ps_continue fun D σ H ⟨env, Hk, G, re, q⟩ => q σ Hk H (Kx.refl _ _) re⟩
theorem psx_doc {s : Str} {j : Nat} : PSx X y (.Expr (.Constant (.str s) j p) pos) mNext := ⟨PS_imp ps_doc fun D σ H ⟨env, Hk, G, re, q⟩ => q σ Hk H (Kx.refl _ _) re⟩
def mRet (m : M Tk) : M Fl := mBind m fun t env => .ok (.rt t) env
theorem psx_ret (h : PX X y e m) : PSx X y (.Return (some e) pos) (mRet m) :=
  ⟨PS_imp (ps_ret h.pe) fun D σ H ⟨env, Hk, G, re, q⟩ => ⟨env, Hk, G, re, ps_bind q fun t e v Hk' H1 k1 r1 rt1 q1 => q1 v σ Hk' H1 (Kx.refl _ _) r1 rt1⟩⟩
def mRetN : M Fl := fun env => .ok (.rt (.val .non)) env
theorem psx_retN : PSx X y (.Return none pos) mRetN := ⟨PS_imp ps_retN fun D σ H ⟨env, Hk, G, re, q⟩ => q .non σ Hk H (Kx.refl _ _) re (rp_non (C := y.ct X) (H := Hk))⟩
def mDrop (m : M Tk) : M Fl := mBind m fun _ env => .ok .nx env
theorem psx_expr (h : PX X y e m) (hs : swapsWith e none pos.line X.env = pure false := by rfl) : PSx X y (.Expr e pos) (mDrop m) :=
  ⟨PS_imp (ps_expr h.pe hs) fun D σ H ⟨env, Hk, G, re, q⟩ => ⟨env, Hk, G, re, ps_bind q fun t e v Hk' H1 k1 r1 rt1 q1 => q1 σ Hk' H1 (Kx.refl _ _) r1⟩⟩
def mIfS (n : M Bool) (f1 f2 : M Fl) : M Fl := mBind n fun b => if b = true then f1 else f2
theorem psx_if (hc : PB X y c n) (ha : PSSx X y sts f1) (hb : PSSx X y sts2 f2) : PSx X y (.If c sts sts2 pos) (mIfS n f1 f2) :=
  ⟨PS_imp (ps_if hc.pt ha.pss hb.pss) fun D σ H ⟨env, Hk, G, re, q⟩ => ⟨env, Hk, G, re, bs_bind q fun b e Hk' H1 k1 r1 q1 => by
    cases b with
    | true => rw [if_pos rfl] at q1; rw [if_pos rfl]; exact ⟨e, Hk', G, r1, q1⟩
    | false => rw [if_neg Bool.false_ne_true] at q1; rw [if_neg Bool.false_ne_true]; exact ⟨e, Hk', G, r1, q1⟩⟩⟩
/-! ### stores -/
def store (i : Nat) (t : Tk) : M Fl := fun env => match t with
  | .new d => .ok .nx (env.set i (.ow d))
  | t => match force t env with
    | .ok d e => .ok .nx (e.set i (.sh d))
    | _ => .bad
def mAsg (i : Nat) (m : M Tk) : M Fl := mBind m (store i)
theorem store_go {i : Nat} {t : Tk} {e : Env} {σ : L2.St} {Hk G H : Hp} {v : V} {D : Ends} (h0 : i ≠ 0 ∨ y.xa.p = none) (re : RE (y.ct X) y.xa G e σ Hk H) (rt : RT (y.ct X) G e σ Hk H t v) (q : PoS (y.ct X) y.xa y.W G Hk (store i t e) D) : D.nx (σ.set i (some v)) H := by
  have other : ∀ t : Tk, RT (y.ct X) G e σ Hk H t v → PoS (y.ct X) y.xa y.W G Hk (match force t e with
    | .ok d e => .ok .nx (e.set i (.sh d))
    | _ => .bad) D → D.nx (σ.set i (some v)) H := fun t rt q => by
    rcases force_cases t e with ⟨d, e1, z⟩ | z
    · rw [z] at q
      obtain ⟨Hk', k', r', rd⟩ := rt.force re z
      exact q _ Hk' H k' (r'.setSh rd)
    · rw [z] at q; exact q.elim
  cases t with
  | val d => exact other (.val d) rt q
  | slot k => exact other (.slot k) rt q
  | new d =>
    obtain ⟨a, rfl, h1, h2, h3⟩ := rt
    exact q _ Hk H (Kx.refl _ _) (re.setOw h0 h1 h2 h3)
theorem psx_set {i : Nat} {x : Str} (hN : X.N.Nodup) (h : PX X y e m) (h0 : i ≠ 0 ∨ y.xa.p = none := by first | exact .inl (by decide) | exact .inr rfl) (hi : X.N[i]? = some x := by rfl) (hx : Loc X.env.scope x := by first | exact Or.inl rfl | exact Or.inr rfl) (hs : swapsWith e (some (.Name x p)) pos.line X.env = pure false := by rfl)
    (hf : X.fn x = true ∨ X.env.scope.names.lookup x = some .local := by first | exact .inl rfl | exact .inr rfl) : PSx X y (.Assign [.Name x p] e pos) (mAsg i m) :=
  ⟨PS_imp (ps_set hN hi hx h.pe hs hf) fun D σ H ⟨env, Hk, G, re, q⟩ => ⟨env, Hk, G, re, ps_bind q fun t e v Hk' H1 k1 r1 rt1 q1 => store_go h0 r1 rt1 q1⟩⟩
/-! ### targets: what they store of known data; sl: the slots that may change -/
def tG (X : Cx) (y : Y) (sl : List Nat) (g : D → Env → Option Env) : TG := fun v σ H Q => ∃ env Hk G d, RE (y.ct X) y.xa G env σ Hk H ∧ Rp (y.ct X) Hk d v ∧ match g d env with
  | some e => ∀ σ', RE (y.ct X) y.xa G e σ' Hk H → σ'.length = σ.length → (∀ i, i ∉ sl → σ'[i]? = σ[i]?) → Q σ' H
  | none => False
def tGs (X : Cx) (y : Y) (sl : List Nat) (g : List D → Env → Option Env) : TGs := fun vs σ H Q => ∃ env Hk G ds, RE (y.ct X) y.xa G env σ Hk H ∧ RpL (y.ct X) Hk ds vs ∧ match g ds env with
  | some e => ∀ σ', RE (y.ct X) y.xa G e σ' Hk H → σ'.length = σ.length → (∀ i, i ∉ sl → σ'[i]? = σ[i]?) → Q σ' H
  | none => False
structure PGx (X : Cx) (y : Y) (e : Expr) (sl : List Nat) (g : D → Env → Option Env) : Prop where
  pg : PG X e (tG X y sl g)
structure PGsx (X : Cx) (y : Y) (es : List Expr) (sl : List Nat) (g : List D → Env → Option Env) : Prop where
  pgs : PGs X es (tGs X y sl g)
theorem PG_imp {e : Expr} {t t' : TG} (h : PG X e t) (f : ∀ v σ H Q, t' v σ H Q → t v σ H Q) : PG X e t' := ⟨fun pins s σ H v u Q I r q => h.run pins s σ H v u Q I r (f v σ H Q q)⟩
theorem PGs_imp {es : List Expr} {t t' : TGs} (h : PGs X es t) (f : ∀ v σ H Q, t' v σ H Q → t v σ H Q) : PGs X es t' := ⟨fun pins s σ H v u Q I r q => h.run pins s σ H v u Q I r (f v σ H Q q)⟩
def gN (i : Nat) : D → Env → Option Env := fun d env => some (env.set i (.sh d))
theorem pgx_name {i : Nat} {x : Str} (hN : X.N.Nodup) (hi : X.N[i]? = some x := by rfl) (hx : Loc X.env.scope x := by first | exact Or.inl rfl | exact Or.inr rfl) (hf : X.fn x = true ∨ X.env.scope.names.lookup x = some .local := by first | exact .inl rfl | exact .inr rfl) : PGx X y (.Name x p) [i] (gN i) :=
  ⟨PG_imp (pg_name hN hi hx hf) fun v σ H Q ⟨env, Hk, G, d, re, rd, q⟩ => q _ (re.setSh rd) (by simp) fun j hj => by
    rw [List.getElem?_set_ne]
    intro h
    exact hj (by simp [h])⟩
def gs0 : List D → Env → Option Env := fun ds env => match ds with
  | [] => some env
  | _ => none
def gs1 (g : D → Env → Option Env) (gs : List D → Env → Option Env) : List D → Env → Option Env := fun ds env => match ds with
  | d :: r => match g d env with
    | some e => gs r e
    | none => none
  | [] => none
theorem pgsx_nil : PGsx X y [] [] gs0 := ⟨PGs_imp pgs_nil fun vs σ H Q ⟨env, Hk, G, ds, re, rd, q⟩ => by
  unfold gs0 at q
  cases ds with
  | nil => unfold RpL at rd; exact ⟨rd, q σ re rfl fun _ _ => rfl⟩
  | cons => exact q.elim⟩
theorem pgsx_cons {es : List Expr} {sl sl' : List Nat} {g : D → Env → Option Env} {gs : List D → Env → Option Env} (h : PGx X y e sl g) (hr : PGsx X y es sl' gs)
    (hs : (assignEach (e :: es) X.env).map (·.2) = assign e X.env :: (assignEach es X.env).map (·.2) := by rfl) : PGsx X y (e :: es) (sl ++ sl') (gs1 g gs) :=
  ⟨PGs_imp (pgs_cons h.pg hr.pgs hs) fun vs σ H Q ⟨env, Hk, G, ds, re, rd, q⟩ => by
    unfold gs1 at q
    cases ds with
    | nil => exact q.elim
    | cons d ds =>
      obtain ⟨v, r, rfl, h1, h2⟩ := rd.inv
      refine ⟨v, r, rfl, env, Hk, G, d, re, h1, ?_⟩
      dsimp only at q
      cases z : g d env with
      | none => rw [z] at q; exact q.elim
      | some e1 =>
        rw [z] at q
        dsimp only at q ⊢
        intro σ1 r1 l1 s1
        refine ⟨e1, Hk, G, ds, r1, h2, ?_⟩
        cases z2 : gs ds e1 with
        | none => rw [z2] at q; exact q.elim
        | some e2 =>
          rw [z2] at q
          dsimp only at q ⊢
          intro σ2 r2 l2 s2
          refine q σ2 r2 (l2.trans l1) fun i hi => ?_
          rw [List.mem_append, not_or] at hi
          rw [s2 i hi.2, s1 i hi.1]⟩
def gT (n : Nat) (gs : List D → Env → Option Env) : D → Env → Option Env := fun d env => match d with
  | .tup ds => if ds.length = n then gs ds env else none
  | _ => none
theorem pgx_tup {es : List Expr} {k : Nat} {sl : List Nat} {gs : List D → Env → Option Env} {n : Nat} (hc : X.calm = true) (h : PGsx X y es sl gs)
    (hn : (assignEach es X.env).length = n := by rfl) (hst : (assignEach es X.env).findIdx? (·.1) = none := by rfl) : PGx X y (.Tuple es k pos) sl (gT n gs) :=
  ⟨PG_imp (pg_tup hc h.pgs hn hst) fun v σ H Q ⟨env, Hk, G, d, re, rd, q⟩ => by
    unfold gT at q
    cases d with
    | tup ds =>
      dsimp only at q
      unfold Rp at rd
      obtain ⟨a, vs, rfl, h1, h2⟩ := rd
      by_cases hl : ds.length = n
      · rw [if_pos hl] at q
        refine ⟨a, vs, rfl, sqT (re.hk _ _ h1), by rw [← h2.len]; exact hl, env, Hk, G, ds, re, h2, ?_⟩
        cases z2 : gs ds env with
        | none => rw [z2] at q; exact q.elim
        | some e => rw [z2] at q; exact q
      · rw [if_neg hl] at q; exact q.elim
    | _ => exact q.elim⟩
def mAsgG (g : D → Env → Option Env) (m : M Tk) : M Fl := mBind m fun t env => match force t env with
  | .ok d e => match g d e with
    | some e2 => .ok .nx e2
    | none => .bad
  | _ => .bad
theorem psx_asg {tg : Expr} {sl : List Nat} {g : D → Env → Option Env} (h : PX X y e m) (hg : PGx X y tg sl g) (hs : swapsWithSole [tg] e pos.line X.env = pure false := by rfl) (hw : swappedStores [tg] e X.env = pure none := by rfl)
    (h1 : (assignEach [tg] X.env).map (·.2) = [assign tg X.env] := by rfl) : PSx X y (.Assign [tg] e pos) (mAsgG g m) :=
  ⟨PS_imp (ps_asg h.pe hg.pg hs hw h1) fun D σ H ⟨env, Hk, G, re, q⟩ => ⟨env, Hk, G, re, ps_bind q fun t e v Hk' H1 k1 r1 rt1 q1 => by
    rcases force_cases t e with ⟨d, e1, z⟩ | z
    · rw [z] at q1
      dsimp only at q1
      obtain ⟨Hk2, k2, r2, rd⟩ := rt1.force r1 z
      refine ⟨e1, Hk2, G, d, r2, rd, ?_⟩
      cases z2 : g d e1 with
      | none => rw [z2] at q1; exact q1.elim
      | some e2 => rw [z2] at q1; exact fun σ' r' _ _ => q1 σ' Hk2 H1 k2 r'
    · rw [z] at q1; exact q1.elim⟩⟩
end
end VM

set_option Elab.async false
set_option linter.all false
set_option maxRecDepth 100000
set_option maxHeartbeats 1000000
/-! VM 7: lists that change, what is walked, for, while, comprehensions -/
namespace VM
open PySem PySem.Spec PyProof.Rows L2
section
variable {X : Cx} {y : Y} {a b c e : Expr} {es : List Expr} {st : Stmt} {sts sts2 : List Stmt} {m m1 m2 mi : M Tk} {ma : M (List Tk)} {n : M Bool} {f f1 f2 : M Fl} {pos p p2 p3 : Pos}
def lim : Nat := 1000000
theorem lim_line {k : Nat} (h : k < lim) : k < sizeLine := Nat.lt_of_lt_of_le h (by decide)
/-- the list that slot k owns -/
def owL (k : Nat) (env : Env) : Option (List D) := match env[k]? with
  | some (.ow (.lst xs)) => some xs
  | _ => none
theorem owL_at {k : Nat} {env : Env} {xs : List D} (h : owL k env = some xs) : env[k]? = some (.ow (.lst xs)) := by
  unfold owL at h
  split at h
  · rename_i z; cases h; exact z
  · cases h
/-- x.append(e) -/
def mApp (k : Nat) (m : M Tk) : M Tk := fun env => match owL k env with
  | none => .bad
  | some _ => mBind m (fun t env => match force t env with
    | .ok d e => match owL k e with
      | some xs => if xs.length < lim then .ok (.val .non) (e.set k (.ow (.lst (xs ++ [d])))) else .bad
      | none => .bad
    | _ => .bad) env
theorem px_app {k : Nat} {o : Expr} (ho : PE X o (tVar k)) (h : PX X y e m) (hs : PE X (.Call (.Attribute o "append" p) [e] [] pos) (tBM X.K "list" rAppend (tVar k) (tCons (tE X y m) tNil))) : PX X y (.Call (.Attribute o "append" p) [e] [] pos) (mApp k m) := by
  refine ⟨PE_imp hs fun σ H Q ⟨env, Hk, G, re, q⟩ => ?_⟩
  unfold mApp at q
  cases z : owL k env with
  | none => rw [z] at q; exact q.elim
  | some xs0 =>
    rw [z] at q
    obtain ⟨l, hl, _, _, vs0, g1, _⟩ := re.ow k _ (owL_at z)
    refine ⟨.ref l, hl, .inl ⟨rfl, vs0, sqL g1⟩, env, Hk, G, re, po_bind q fun t e v Hk' H1 k1 r1 rt1 q1 => ?_⟩
    rcases force_cases t e with ⟨d, e1, z1⟩ | z1
    · rw [z1] at q1
      dsimp only at q1
      obtain ⟨Hk2, k2, r2, rd⟩ := rt1.force r1 z1
      cases z2 : owL k e1 with
      | none => rw [z2] at q1; exact q1.elim
      | some xs =>
        rw [z2] at q1
        dsimp only at q1
        split at q1
        · rename_i hlen
          obtain ⟨l', hl', w1, w2, vs, w3, w4⟩ := r2.ow k _ (owL_at z2)
          rw [hl] at hl'
          cases hl'
          refine ⟨l, vs, v, rfl, rfl, w3, by rw [← w4.len]; exact lim_line hlen, ?_⟩
          exact q1 .non Hk2 _ k2 (r2.mut (owL_at z2) hl ⟨w2, _, upd_same, w4.append (.cons rd .nil)⟩) (rp_non (C := y.ct X) (H := Hk2))
        · exact q1.elim
    · rw [z1] at q1; exact q1.elim
/-- x[i] = e -/
def mSetI (k : Nat) (mi m : M Tk) : M Fl := mBind m fun t env => match force t env with
  | .ok d e1 => match owL k e1 with
    | none => .bad
    | some _ => mBind mi (fun ti e2 => match look ti e2, owL k e2 with
      | some (.int i), some xs => match ixN xs.length i with
        | some j => .ok .nx (e2.set k (.ow (.lst (xs.set j d))))
        | none => .bad
      | _, _ => .bad) e1
  | _ => .bad
theorem psx_setI {k : Nat} {o i : Expr} (h : PX X y e m) (hi : PX X y i mi) (hs : PS X (.Assign [.Subscript o i p] e pos) (tAsg (tE X y m) (gSub (tVar k) (tE X y mi) rSetL))) : PSx X y (.Assign [.Subscript o i p] e pos) (mSetI k mi m) := by
  refine ⟨PS_imp hs fun D σ H ⟨env, Hk, G, re, q⟩ => ⟨env, Hk, G, re, ps_bind q fun t e v Hk' H1 k1 r1 rt1 q1 => ?_⟩⟩
  rcases force_cases t e with ⟨d, e1, z1⟩ | z1
  · rw [z1] at q1
    dsimp only at q1
    obtain ⟨Hk2, k2, r2, rd⟩ := rt1.force r1 z1
    have q1 := q1.kx k2
    cases z : owL k e1 with
    | none => rw [z] at q1; exact q1.elim
    | some xs0 =>
      rw [z] at q1
      dsimp only at q1
      obtain ⟨l, hl, _, _, vs0, g1, _⟩ := r2.ow k _ (owL_at z)
      refine ⟨.ref l, hl, e1, Hk2, G, r2, ps_bind q1 fun ti e2 w Hk3 H3 k3 r3 rt3 q3 => ?_⟩
      cases z2 : look ti e2 with
      | none => rw [z2] at q3; exact q3.elim
      | some di =>
        rw [z2] at q3
        cases di with
        | int i =>
          cases z3 : owL k e2 with
          | none => rw [z3] at q3; exact q3.elim
          | some xs =>
            rw [z3] at q3
            dsimp only at q3
            cases z4 : ixN xs.length i with
            | none => rw [z4] at q3; exact q3.elim
            | some j =>
              rw [z4] at q3
              obtain ⟨l', hl', w1, w2, vs, w3, w4⟩ := r3.ow k _ (owL_at z3)
              rw [hl] at hl'
              cases hl'
              refine ⟨l, vs, i, j, rfl, (rt3.look r3 z2).int, w3, by rw [← w4.len]; exact z4, ?_⟩
              exact q3 σ Hk3 _ (Kx.refl _ _) (r3.mut (owL_at z3) hl ⟨w2, _, upd_same, w4.set (rd.mono k3.ex)⟩)
        | _ => exact q3.elim
  · rw [z1] at q1; exact q1.elim

/-! ### what is walked -/
/-- the iterator J gives ds, one after another -/
def Serv (C : Ct) (J : It) (Hk : Hp) (ds : List D) : Prop := ∀ (i : Nat) (Hk1 H : Hp), Ex Hk Hk1 → Ex Hk1 H → (∀ d, ds[i]? = some d → J.go i H ∧ ∀ x H', J.yld i H x H' → Res C Hk1 H (.val d) x H') ∧ (ds.length ≤ i → J.stop i H)
def PoI (C : Ct) (xa : Xa) (W : WX) (G : Hp) (σ : L2.St) (Hk : Hp) (r : Rs (List D)) (R : It → Hp → Prop) : Prop := match r with
  | .ok ds e => ∀ J Hk' H', Kx G Hk Hk' → RE C xa G e σ Hk' H' → Serv C J Hk' ds → R J H'
  | .ex c ns ds e => PoX C xa W G σ Hk c ns ds e
  | .bad => False
def tI (X : Cx) (y : Y) (m : M (List D)) : TI := fun σ H R => ∃ env Hk G, RE (y.ct X) y.xa G env σ Hk H ∧ PoI (y.ct X) y.xa y.W G σ Hk (m env) R
structure PIx (X : Cx) (y : Y) (tg e : Expr) (m : M (List D)) : Prop where
  pi : PI X tg e (tI X y m)
theorem PI_imp {tg e : Expr} {t t' : TI} (h : PI X tg e t) (f : ∀ σ H Q, t' σ H Q → t σ H Q) : PI X tg e t' := ⟨fun pins s σ H R I q => h.run pins s σ H R I (f σ H R q)⟩
theorem PI_or {tg e : Expr} {t t' : TI} (h : PI X tg e t) (h' : PI X tg e t') : PI X tg e (fun σ H R => t σ H R ∨ t' σ H R) := ⟨fun pins s σ H R I q => q.elim (h.run pins s σ H R I) (h'.run pins s σ H R I)⟩
variable {tg : Expr}
/-- a list, a tuple, the script -/
def mIter (m : M Tk) : M (List D) := mBind m fun t env => match force t env with
  | .ok (.lst xs) e => .ok xs e
  | .ok (.tup xs) e => .ok xs e
  | .ok (.scr ns) e => .ok (ns.map .int) e
  | _ => .bad
theorem serv_lst {C : Ct} {Hk : Hp} {a : Addr} {xs : List D} {vs : List V} (h : SqL C.K Hk a vs) (r : RpL C Hk xs vs) : Serv C (Itl C.K a) Hk xs := by
  intro i Hk1 H e1 e2
  have h1 : SqL C.K H a vs := ex_l (e1.trans e2) h
  refine ⟨fun d hd => ?_, fun hi => ⟨vs, h1, by rw [← r.len]; exact hi⟩⟩
  obtain ⟨v, hv, rv⟩ := r.get hd
  exact ⟨⟨vs, v, h1, hv⟩, fun x H' hy => by
    obtain ⟨rfl, hx⟩ := hy
    have := hx vs h1
    rw [hv] at this
    cases this
    exact res_flat (rv.mono e1) e2⟩
theorem serv_tup {C : Ct} {Hk : Hp} {a : Addr} {xs : List D} {vs : List V} (h : Hk a = some (.tup vs)) (r : RpL C Hk xs vs) : Serv C (Itt C.K a) Hk xs := by
  intro i Hk1 H e1 e2
  have h1 : SqT C.K H a vs := sqT (e2 _ _ (e1 _ _ h))
  refine ⟨fun d hd => ?_, fun hi => ⟨vs, h1, by rw [← r.len]; exact hi⟩⟩
  obtain ⟨v, hv, rv⟩ := r.get hd
  exact ⟨⟨vs, v, h1, hv⟩, fun x H' hy => by
    obtain ⟨rfl, hx⟩ := hy
    have := hx vs h1
    rw [hv] at this
    cases this
    exact res_flat (rv.mono e1) e2⟩
theorem pix_seq (h : PX X y e m) : PIx X y tg e (mIter m) := by
  refine ⟨PI_imp (PI_or (pi_list h.pe) (pi_tup h.pe)) fun σ H R ⟨env, Hk, G, re, q⟩ => ?_⟩
  unfold mIter mBind at q
  have key : ∀ t e1, m env = .ok t e1 → (∃ xs e2, force t e1 = .ok (.tup xs) e2) ∨ ¬ (∃ xs e2, force t e1 = .ok (.tup xs) e2) := fun t e1 _ => Classical.em _
  cases z : m env with
  | ok t e1 =>
    rw [z] at q
    dsimp only at q
    rcases key t e1 z with ⟨xs, e2, z2⟩ | nt
    · refine .inr ⟨env, Hk, G, re, ?_⟩
      rw [z]
      intro v Hk1 H1 k1 r1 rt1
      rw [z2] at q
      obtain ⟨Hk2, k2, r2, rd⟩ := rt1.force r1 z2
      unfold Rp at rd
      obtain ⟨a, vs, rfl, h1, h2⟩ := rd
      exact ⟨a, rfl, ⟨vs, sqT (r2.hk _ _ h1)⟩, q _ Hk2 H1 (k1.trans k2) r2 (serv_tup (C := y.ct X) h1 h2)⟩
    · refine .inl ⟨env, Hk, G, re, ?_⟩
      rw [z]
      intro v Hk1 H1 k1 r1 rt1
      rcases force_cases t e1 with ⟨d, e2, z2⟩ | z2
      · rw [z2] at q
        obtain ⟨Hk2, k2, r2, rd⟩ := rt1.force r1 z2
        cases d with
        | lst xs =>
          unfold Rp at rd
          obtain ⟨a, vs, rfl, h1, h2⟩ := rd
          exact ⟨a, rfl, ⟨vs, sqL (r2.hk _ _ h1)⟩, q _ Hk2 H1 (k1.trans k2) r2 (serv_lst (C := y.ct X) (sqL h1) h2)⟩
        | scr ns =>
          unfold Rp at rd
          obtain ⟨a, rfl, h1⟩ := rd
          exact ⟨a, rfl, ⟨_, ex_l r2.hk h1⟩, q _ Hk2 H1 (k1.trans k2) r2 (serv_lst (C := y.ct X) h1 ints_rpl)⟩
        | tup xs => exact absurd ⟨xs, e2, z2⟩ nt
        | _ => exact q.elim
      · rw [z2] at q; exact q.elim
  | ex c ns ds e1 =>
    rw [z] at q
    exact .inl ⟨env, Hk, G, re, by rw [z]; exact q⟩
  | bad => rw [z] at q; exact q.elim
/-- range(n), range(lo, n) -/
def rngD (lo : Int) (n : Nat) : List D := (List.range n).map fun i => .int (lo + (i : Nat))
theorem serv_rng {C : Ct} {Hk : Hp} {lo : Int} {n : Nat} : Serv C (Itr lo n) Hk (rngD lo n) := by
  intro i Hk1 H e1 e2
  refine ⟨fun d hd => ?_, fun hi => ?_⟩
  · unfold rngD at hd
    rw [List.getElem?_map] at hd
    cases z : (List.range n)[i]? with
    | none => rw [z] at hd; cases hd
    | some j =>
      rw [z] at hd
      cases hd
      obtain ⟨hl, hj⟩ := List.getElem?_eq_some_iff.mp z
      rw [List.getElem_range] at hj
      subst hj
      have hl' : i < n := by simpa using hl
      exact ⟨hl', fun x H' hy => by
        obtain ⟨rfl, rfl⟩ := hy
        exact res_flat rp_int e2⟩
  · unfold rngD at hi
    have hi' : n ≤ i := by simpa using hi
    exact hi'
def okR (i : Int) : Bool := decide (-(2 ^ 62) ≤ i ∧ i < 2 ^ 62)
def mRng (ma : M (List Tk)) : M (List D) := mBind ma fun ts env => match lookAll ts env with
  | some [.int n] => if okR n = true then .ok (rngD 0 n.toNat) env else .bad
  | some [.int lo, .int n] => if okR lo = true ∧ okR n = true then .ok (rngD lo (n - lo).toNat) env else .bad
  | _ => .bad
theorem ai_bind {g : List Tk → M (List D)} {env : Env} {G : Hp} {σ : L2.St} {Hk : Hp} {Q : It → Hp → Prop} {R : List V → Hp → Prop} (q : PoI (y.ct X) y.xa y.W G σ Hk (mBind ma g env) Q)
    (k : ∀ ts e vs Hk' H1, Kx G Hk Hk' → RE (y.ct X) y.xa G e σ Hk' H1 → RVs (y.ct X) σ Hk' ts vs → PoI (y.ct X) y.xa y.W G σ Hk' (g ts e) Q → R vs H1) : PoA (y.ct X) y.xa y.W G σ Hk (ma env) R := by
  unfold mBind at q
  cases e : ma env with
  | ok t e1 =>
    rw [e] at q
    refine fun v Hk' H' k' r' h' => k t e1 v Hk' H' k' r' h' ?_
    dsimp only at q
    cases z : g t e1 with
    | ok ds e2 => rw [z] at q; exact fun J H2 H3 k2 => q J H2 H3 (k'.trans k2)
    | ex c ns ds e2 => rw [z] at q; exact PoX.kx k' q
    | bad => rw [z] at q; exact q
  | ex c ns ds e1 => rw [e] at q; exact q
  | bad => rw [e] at q; exact q
theorem paired1 {C : Ct} {Hk H : Hp} {n : Int} {vs : List V} (h : Paired (fun d v => Pk C Hk H d v) [D.int n] vs) : vs = [.int n] := by
  cases h with
  | cons h1 h2 => cases h2; rw [h1.int]
theorem paired2 {C : Ct} {Hk H : Hp} {n k : Int} {vs : List V} (h : Paired (fun d v => Pk C Hk H d v) [D.int n, D.int k] vs) : vs = [.int n, .int k] := by
  cases h with
  | cons h1 h2 =>
    cases h2 with
    | cons h2 h3 => cases h3; rw [h1.int, h2.int]
theorem okR_at {i : Int} (h : okR i = true) : -(2 ^ 62) ≤ i ∧ i < 2 ^ 62 := of_decide_eq_true h
theorem pix_rng1 (hm : X.mg "range" = none) (ha : PAs X y [a] ma) (hn : Many ma 1) (hg : Gl X "range" := by rfl) (hs : starEach [a] X.env = [(false, eval a X.env)] := by rfl) : PIx X y tg (.Call (.Name "range" p) [a] [] pos) (mRng ma) := by
  refine ⟨PI_imp (pi_range1 hg hm ha.pa hs) fun σ H R ⟨env, Hk, G, re, q⟩ => ⟨env, Hk, G, re, ?_⟩⟩
  have hl : ∀ ts e, ma env = .ok ts e → ts.length = 1 := fun ts e z => hn _ _ _ z
  unfold mRng at q
  cases z0 : ma env with
  | ok ts e1 =>
    have q' := q
    unfold mBind at q'
    rw [z0] at q'
    dsimp only at q'
    intro vs Hk1 H1 k1 r1 rs
    cases z : lookAll ts e1 with
    | none => rw [z] at q'; exact q'.elim
    | some ds =>
      rw [z] at q'
      have hp := RVs.look r1 rs z
      have hlen : ds.length = 1 := by
        have h1 := hl ts e1 z0
        have h2 := rs.len
        have h3 : ds.length = vs.length := Paired.length hp
        omega
      match ds, hp, hlen, q' with
      | [.int n], hp, _, q' =>
        dsimp only at q'
        split at q'
        · rename_i ok
          have o := okR_at ok
          exact ⟨n, paired1 hp, o.1, o.2, q' _ Hk1 H1 k1 r1 serv_rng⟩
        · exact q'.elim
  | ex c ns ds e1 => unfold mBind at q; rw [z0] at q; exact q
  | bad => unfold mBind at q; rw [z0] at q; exact q
theorem pix_rng2 (hm : X.mg "range" = none) (ha : PAs X y [a, b] ma) (hn : Many ma 2) (hg : Gl X "range" := by rfl) (hs : starEach [a, b] X.env = [(false, eval a X.env), (false, eval b X.env)] := by rfl) (hs2 : starEach [b] X.env = [(false, eval b X.env)] := by rfl) :
    PIx X y tg (.Call (.Name "range" p) [a, b] [] pos) (mRng ma) := by
  refine ⟨PI_imp (pi_range2 hg hm ha.pa hs hs2) fun σ H R ⟨env, Hk, G, re, q⟩ => ⟨env, Hk, G, re, ?_⟩⟩
  have hl : ∀ ts e, ma env = .ok ts e → ts.length = 2 := fun ts e z => hn _ _ _ z
  unfold mRng at q
  cases z0 : ma env with
  | ok ts e1 =>
    have q' := q
    unfold mBind at q'
    rw [z0] at q'
    dsimp only at q'
    intro vs Hk1 H1 k1 r1 rs
    cases z : lookAll ts e1 with
    | none => rw [z] at q'; exact q'.elim
    | some ds =>
      rw [z] at q'
      have hp := RVs.look r1 rs z
      have hlen : ds.length = 2 := by
        have h1 := hl ts e1 z0
        have h2 := rs.len
        have h3 : ds.length = vs.length := Paired.length hp
        omega
      match ds, hp, hlen, q' with
      | [.int lo, .int n], hp, _, q' =>
        dsimp only at q'
        split at q'
        · rename_i ok
          have o := okR_at ok.1
          have o2 := okR_at ok.2
          exact ⟨lo, n, paired2 hp, ⟨o.1, o.2, o2.1, o2.2⟩, q' _ Hk1 H1 k1 r1 serv_rng⟩
        · exact q'.elim
  | ex c ns ds e1 => unfold mBind at q; rw [z0] at q; exact q
  | bad => unfold mBind at q; rw [z0] at q; exact q
end
end VM

set_option Elab.async false
set_option linter.all false
set_option maxRecDepth 100000
set_option maxHeartbeats 1000000
/-! VM 8: for, while, comprehensions -/
namespace VM
open PySem PySem.Spec PyProof.Rows L2
def forget (l : List Nat) (env : Env) : Env := l.foldl (fun e i => e.set i .no) env
theorem RE.forget {C : Ct} {xa : Xa} {G : Hp} {σ : L2.St} {Hk H : Hp} : ∀ (l : List Nat) {env : Env}, RE C xa G env σ Hk H → RE C xa G (VM.forget l env) σ Hk H
  | [], _, r => r
  | i :: l, _, r => RE.forget l (r.drop i)
section
variable {X : Cx} {y : Y} {a b c e : Expr} {es : List Expr} {st : Stmt} {sts sts2 : List Stmt} {m m1 m2 mi : M Tk} {ma : M (List Tk)} {n : M Bool} {f f1 f2 : M Fl} {pos p p2 p3 : Pos} {tg : Expr}
def mLoop (g : D → Env → Option Env) (junk : List Nat) (body : M Fl) : List D → M Fl
  | [] => fun env => .ok .nx env
  | d :: ds => fun env => match g d env with
    | none => .bad
    | some e1 => match body e1 with
      | .ok .nx e2 => mLoop g junk body ds (forget junk e2)
      | .ok .ct e2 => mLoop g junk body ds (forget junk e2)
      | .ok .bk e2 => .ok .nx (forget junk e2)
      | .ok (.rt t) e2 => .ok (.rt t) e2
      | .ex c ns xs e2 => .ex c ns xs e2
      | .bad => .bad
def mFor (mi : M (List D)) (g : D → Env → Option Env) (junk : List Nat) (body : M Fl) : M Fl := mBind mi (mLoop g junk body)
theorem psx_for {mi : M (List D)} {g : D → Env → Option Env} {sl : List Nat} (junk : List Nat) (hp : PassesOwn (model X.prog X.w) X.A X.env X.xe) (hc : X.calm = true) (hi : PIx X y tg e mi) (hg : PGx X y tg sl g) (hb : PSSx X y sts f)
    (hs : ∀ x, foldedSetIterable e X.env x = pure x := by intro _; rfl) : PSx X y (.For tg e sts [] pos) (mFor mi g junk f) := by
  refine ⟨PS_imp (ps_for hp hc hi.pi hg.pg hb.pss hs) fun D σ H ⟨env, Hk, G, re, q⟩ => ⟨env, Hk, G, re, ?_⟩⟩
  unfold mFor mBind at q
  cases z : mi env with
  | bad => rw [z] at q; exact q
  | ex c ns ds e1 => rw [z] at q; exact PoXS.at q
  | ok ds e1 =>
    rw [z] at q
    dsimp only at q
    intro J Hk0 H0 k0 r0 sv
    refine ⟨fun i m σ H => m = ds.length - i ∧ i ≤ ds.length ∧ ∃ env Hk, RE (y.ct X) y.xa G env σ Hk H ∧ Kx G Hk0 Hk ∧ PoS (y.ct X) y.xa y.W G Hk (mLoop g junk f (ds.drop i) env) D,
      ⟨ds.length, by simp, Nat.zero_le _, e1, Hk0, r0, Kx.refl _ _, q.kx k0⟩, ?_⟩
    rintro i m σ1 H1 ⟨rfl, hi, env1, Hk1, r1, k1, q1⟩
    obtain ⟨s1, s2⟩ := sv i Hk1 H1 k1.ex r1.hk
    by_cases hlt : i < ds.length
    · right
      have hd : ds[i]? = some ds[i] := List.getElem?_eq_getElem hlt
      obtain ⟨go, yl⟩ := s1 _ hd
      refine ⟨go, fun σ' H' => ∃ env' Hk', RE (y.ct X) y.xa G env' σ' Hk' H' ∧ Kx G Hk0 Hk' ∧ PoS (y.ct X) y.xa y.W G Hk' (mLoop g junk f (ds.drop (i + 1)) env') D,
        fun σ' H' ⟨env', Hk', r', k', q'⟩ => ⟨ds.length - (i + 1), by omega, rfl, by omega, env', Hk', r', k', q'⟩, fun x H' hy => ?_⟩
      obtain ⟨Hk2, k2, r2, rx⟩ := r1.res (yl x H' hy)
      rw [List.drop_eq_getElem_cons hlt] at q1
      unfold mLoop at q1
      refine ⟨env1, Hk2, G, ds[i], r2, rx, ?_⟩
      cases z1 : g ds[i] env1 with
      | none => rw [z1] at q1; exact q1.elim
      | some e2 =>
        rw [z1] at q1
        dsimp only at q1
        intro σ2 r3 _ _
        refine ⟨e2, Hk2, G, r3, ?_⟩
        have q1 := q1.kx k2
        cases z2 : f e2 with
        | bad => rw [z2] at q1; exact q1.elim
        | ex c ns xs e3 => rw [z2] at q1; exact q1
        | ok fl e3 =>
          rw [z2] at q1
          cases fl with
          | nx => exact fun σ' Hk' H' k' r' => ⟨_, Hk', r'.forget junk, (k1.trans k2).trans k', q1.kx k'⟩
          | ct => exact fun σ' Hk' H' k' r' => ⟨_, Hk', r'.forget junk, (k1.trans k2).trans k', q1.kx k'⟩
          | bk => exact fun σ' Hk' H' k' r' => q1 σ' Hk' H' k' (r'.forget junk)
          | rt t => exact q1
    · left
      have hl : ds.length ≤ i := by omega
      refine ⟨s2 hl, ?_⟩
      rw [List.drop_eq_nil_of_le hl] at q1
      exact q1 σ1 Hk1 H1 (Kx.refl _ _) r1
def mWhile (n : M Bool) (junk : List Nat) (body : M Fl) : Nat → M Fl
  | 0 => fun _ => .bad
  | k + 1 => mBind n fun b => if b = true then fun e1 => match body e1 with
      | .ok .nx e2 => mWhile n junk body k (forget junk e2)
      | .ok .ct e2 => mWhile n junk body k (forget junk e2)
      | .ok .bk e2 => .ok .nx (forget junk e2)
      | .ok (.rt t) e2 => .ok (.rt t) e2
      | .ex c ns xs e2 => .ex c ns xs e2
      | .bad => .bad
    else fun e => .ok .nx e
theorem psx_while (k : Nat) (junk : List Nat) (hp : PassesOwn (model X.prog X.w) X.A X.env X.xe) (hc : PB X y c n) (hb : PSSx X y sts f) : PSx X y (.While c sts [] pos) (mWhile n junk f k) := by
  refine ⟨PS_imp (ps_while hp hc.pt hb.pss) fun D σ H ⟨env, Hk, G, re, q⟩ => ?_⟩
  refine ⟨fun m σ H => ∃ env Hk, RE (y.ct X) y.xa G env σ Hk H ∧ PoS (y.ct X) y.xa y.W G Hk (mWhile n junk f m env) D, ⟨k, env, Hk, re, q⟩, ?_⟩
  rintro m σ1 H1 ⟨env1, Hk1, r1, q1⟩
  cases m with
  | zero => exact q1.elim
  | succ m =>
    unfold mWhile at q1
    refine ⟨env1, Hk1, G, r1, bs_bind q1 fun b e Hk2 H2 k2 r2 q2 => ?_⟩
    cases b with
    | false => rw [if_neg Bool.false_ne_true] at q2 ⊢; exact q2 σ1 Hk2 H2 (Kx.refl _ _) r2
    | true =>
      rw [if_pos rfl] at q2 ⊢
      refine ⟨fun σ' H' => ∃ env' Hk', RE (y.ct X) y.xa G env' σ' Hk' H' ∧ PoS (y.ct X) y.xa y.W G Hk' (mWhile n junk f m env') D, fun σ' H' h => ⟨m, Nat.lt_succ_self m, h⟩, e, Hk2, G, r2, ?_⟩
      cases z2 : f e with
      | bad => rw [z2] at q2; exact q2.elim
      | ex c ns xs e3 => rw [z2] at q2; exact q2
      | ok fl e3 =>
        rw [z2] at q2
        cases fl with
        | nx => exact fun σ' Hk' H' k' r' => ⟨_, Hk', r'.forget junk, q2.kx k'⟩
        | ct => exact fun σ' Hk' H' k' r' => ⟨_, Hk', r'.forget junk, q2.kx k'⟩
        | bk => exact fun σ' Hk' H' k' r' => q2 σ' Hk' H' k' (r'.forget junk)
        | rt t => exact q2

/-! ### comprehensions -/
/-- within a comprehension's block no exception is let out -/
abbrev Y.blk (y : Y) : Y := { y with W := fun _ _ _ _ => False }
def wipeE : List Nat → Env → Env
  | [], env => env
  | v :: vs, env => (wipeE vs env).set v .no
def mLcLoop (g : D → Env → Option Env) (own : List Nat) (test : M Bool) (elt : M Tk) : List D → List D → M (List D)
  | [], acc => fun env => .ok acc env
  | d :: ds, acc => fun env => match g d env with
    | none => .bad
    | some e1 => match test e1 with
      | .ok true e2 => match elt e2 with
        | .ok t e3 => match force t e3 with
          | .ok x e4 => if acc.length < lim then mLcLoop g own test elt ds (acc ++ [x]) (wipeE own e4) else .bad
          | _ => .bad
        | _ => .bad
      | .ok false e2 => mLcLoop g own test elt ds acc (wipeE own e2)
      | _ => .bad
/-- the block's own names as they stood ahead -/
def restore : List Nat → Env → Env → Env
  | [], _, env => env
  | v :: vs, env0, env => restore vs env0 (env.set v (env0.getD v .no))
/-- none of these slots owns -/
def noOw (own : List Nat) (env : Env) : Bool := own.all fun i => match env[i]? with
  | some .no => true
  | some (.sh _) => true
  | _ => false
def mLc (mi : M (List D)) (g : D → Env → Option Env) (own : List Nat) (test : M Bool) (elt : M Tk) : M Tk := mBind mi fun ds e1 => if noOw own e1 = true then match mLcLoop g own test elt ds [] (wipeE own e1) with
    | .ok out e2 => .ok (.new (.lst out)) (restore own e1 e2)
    | _ => .bad
  else .bad
section
variable {C : Ct} {xa : Xa} {G : Hp} {Hk H : Hp}
theorem wipe_get {i : Nat} {σ : L2.St} : ∀ {own : List Nat}, i ∉ own → (wipe σ own)[i]? = σ[i]?
  | [], _ => rfl
  | j :: own, hi => by
    show ((wipe σ own).set j none)[i]? = _
    rw [List.getElem?_set_ne (fun h => hi (by rw [h]; exact List.mem_cons_self)), wipe_get (fun h => hi (List.mem_cons_of_mem _ h))]
theorem RE.wipe {σ : L2.St} : ∀ (own : List Nat) {env : Env}, RE C xa G env σ Hk H → RE C xa G (wipeE own env) (L2.wipe σ own) Hk H
  | [], _, r => r
  | v :: vs, _, r => (RE.wipe vs r).dropSet v none
theorem RE.unset {τ : L2.St} {e : Env} {v : Nat} {x : S} (r : RE C xa G e (τ.set v none) Hk H) (h : x = .no ∨ ∃ d w, x = .sh d ∧ τ[v]? = some (some w) ∧ Rp C Hk d w) : RE C xa G (e.set v x) τ Hk H := by
  rcases h with h | ⟨d, w, h, h1, h2⟩
  · subst h
    cases z : τ[v]? with
    | none =>
      have hl : τ.length ≤ v := List.getElem?_eq_none_iff.mp z
      rw [List.set_eq_of_length_le hl] at r
      exact r.drop v
    | some o =>
      have r2 := r.dropSet v o
      rw [List.set_set, set_id z] at r2
      exact r2
  · subst h
    have r2 := r.setSh (k := v) h2
    rw [List.set_set, set_id h1] at r2
    exact r2
theorem RE.restore {σ : L2.St} {env0 : Env} : ∀ (own : List Nat) {e : Env}, own.Nodup → RE C xa G e (L2.wipe σ own) Hk H → (∀ i ∈ own, env0.getD i .no = .no ∨ ∃ d w, env0.getD i .no = .sh d ∧ σ[i]? = some (some w) ∧ Rp C Hk d w) → RE C xa G (VM.restore own env0 e) σ Hk H
  | [], _, _, r, _ => r
  | v :: vs, e, nd, r, h => by
    obtain ⟨n1, n2⟩ := List.nodup_cons.mp nd
    refine RE.restore vs n2 (RE.unset r ?_) fun i hi => h i (List.mem_cons_of_mem _ hi)
    rcases h v List.mem_cons_self with z | ⟨d, w, z1, z2, z3⟩
    · exact .inl z
    · exact .inr ⟨d, w, z1, by rw [wipe_get n1]; exact z2, z3⟩
theorem restore_ow {env0 : Env} {i : Nat} {d : D} : ∀ {own : List Nat} {e : Env}, (∀ j ∈ own, env0.getD j .no = .no ∨ ∃ d, env0.getD j .no = .sh d) → (VM.restore own env0 e)[i]? = some (.ow d) → e[i]? = some (.ow d) ∧ i ∉ own
  | [], _, _, h => ⟨h, by simp⟩
  | v :: vs, e, hn, h => by
    obtain ⟨h1, h2⟩ := restore_ow (own := vs) (fun j hj => hn j (List.mem_cons_of_mem _ hj)) h
    rcases set_get h1 with ⟨e1, _, e2⟩ | ⟨e1, h1⟩
    · exfalso
      rcases hn v List.mem_cons_self with z | ⟨d', z⟩
      · rw [z] at e2; cases e2
      · rw [z] at e2; cases e2
    · refine ⟨h1, fun hm => ?_⟩
      rcases List.mem_cons.mp hm with z | z
      · exact e1 z.symm
      · exact h2 z
theorem noOw_at {own : List Nat} {env : Env} {σ : L2.St} (r : RE C xa G env σ Hk H) (h : noOw own env = true) (i : Nat) (hi : i ∈ own) : env.getD i .no = .no ∨ ∃ d w, env.getD i .no = .sh d ∧ σ[i]? = some (some w) ∧ Rp C Hk d w := by
  unfold noOw at h
  have h := List.all_eq_true.mp h i hi
  have hg : env.getD i .no = (env[i]?).getD .no := by rw [List.getD_eq_getElem?_getD]
  rw [hg]
  cases z : env[i]? with
  | none => exact .inl rfl
  | some s =>
    rw [z] at h
    cases s with
    | no => exact .inl rfl
    | sh d =>
      obtain ⟨v, h1, h2⟩ := r.sh i d z
      exact .inr ⟨d, v, rfl, h1, h2⟩
    | ow d => simp at h
    | xv c ns ds => simp at h
end
variable {elt iter : Expr} {ifs : List Expr}
/-- tests of a clause -/
structure PBs (X : Cx) (y : Y) (ifs : List Expr) (m : M Bool) : Prop where
  pts : PTs X ifs (tB X y m)
theorem PTs_imp {ifs : List Expr} {t t' : TT} (h : PTs X ifs t) (f : ∀ σ H Q, t' σ H Q → t σ H Q) : PTs X ifs t' := ⟨fun pins s σ H Q I q => h.run pins s σ H Q I (f σ H Q q)⟩
def mYes : M Bool := fun env => .ok true env
theorem pbs_nil : PBs X y [] mYes := ⟨PTs_imp pts_nil fun σ H Q ⟨env, Hk, G, re, q⟩ => q Hk H (Kx.refl _ _) re⟩
theorem pbs_one (h : PB X y c n) : PBs X y [c] n := ⟨pts_one h.pt⟩
theorem wipe_eq {σ τ : L2.St} : ∀ {own : List Nat}, τ.length = σ.length → (∀ i, i ∉ own → τ[i]? = σ[i]?) → wipe τ own = wipe σ own := by
  intro own hl h
  apply List.ext_getElem?
  intro j
  by_cases hj : j ∈ own
  · have key : ∀ (own : List Nat) (ρ : L2.St), j ∈ own → (wipe ρ own)[j]? = if j < ρ.length then some none else none := by
      intro own
      induction own with
      | nil => intro ρ h; simp at h
      | cons v vs ih =>
        intro ρ h
        show ((wipe ρ vs).set v none)[j]? = _
        by_cases e : v = j
        · subst e
          by_cases hlt : v < ρ.length
          · rw [List.getElem?_set_self (by rw [wipe_length]; exact hlt), if_pos hlt]
          · rw [List.getElem?_eq_none (by rw [List.length_set, wipe_length]; omega), if_neg hlt]
        · rw [List.getElem?_set_ne e]
          rcases List.mem_cons.mp h with z | z
          · exact absurd z.symm e
          · exact ih ρ z
    rw [key own τ hj, key own σ hj, hl]
  · rw [wipe_get hj, wipe_get hj, h j hj]
theorem t_lc {mi : M (List D)} {g : D → Env → Option Env} {own sl : List Nat} {test : M Bool} {el : M Tk} {X' : Cx} (hK : X'.K = X.K) (nd : own.Nodup) (sub : ∀ i ∈ sl, i ∈ own) {σ : L2.St} {H : Hp} {Q : VK} (h : tE X y (mLc mi g own test el) σ H Q) :
    tLc (tI X y mi) (tG X' y.blk sl g) (tB X' y.blk test) (tE X' y.blk el) own σ H Q := by
  have hct : y.blk.ct X' = y.ct X := by show Ct.mk X'.K y.cm = Ct.mk X.K y.cm; rw [hK]
  obtain ⟨env, Hk, G, re, q⟩ := h
  refine ⟨env, Hk, G, re, ?_⟩
  unfold mLc mBind at q
  cases z : mi env with
  | bad => rw [z] at q; exact q
  | ex c ns ds e1 => rw [z] at q; exact q
  | ok ds e1 =>
    rw [z] at q
    dsimp only at q
    intro J Hk0 H0 k0 r0 sv Dl hD
    by_cases hn : noOw own e1 = true
    · rw [if_pos hn] at q
      have gD : G Dl = none := r0.g.back hD
      have kD : Hk0 Dl = none := r0.hk.back hD
      have n1 := noOw_at r0 hn
      -- the word of the turns
      refine ⟨fun i m H => m = ds.length - i ∧ i ≤ ds.length ∧ ∃ env Hk accV acc, RE (y.ct X) y.xa (upd G Dl (.lst accV)) env (wipe σ own) Hk H ∧ Kx G Hk0 Hk ∧ Hk Dl = none ∧ RpL (y.ct X) Hk acc accV ∧
          ∃ out e2, mLcLoop g own test el (ds.drop i) acc env = .ok out e2 ∧ PoE (y.ct X) y.xa y.W G σ Hk (.ok (.new (.lst out)) (restore own e1 e2)) Q, ⟨ds.length, by simp, Nat.zero_le _, ?_⟩, ?_⟩
      · have rw0 := (r0.wipe own).ext (Ex.new (o := .lst []) hD)
        cases z2 : mLcLoop g own test el ds [] (wipeE own e1) with
        | bad => rw [z2] at q; exact q.elim
        | ex c ns xs e2 => rw [z2] at q; exact q.elim
        | ok out e2 =>
          rw [z2] at q
          refine ⟨wipeE own e1, Hk0, [], [], ⟨rw0.len, rw0.hk, ?_, rw0.sh, fun i d hi => ?_, rw0.inj, rw0.xv, rw0.pn⟩, Kx.refl _ _, kD, RpL.nil, out, e2, z2, PoE.kx (r := .ok _ _) k0 q⟩
          · exact Ex.updB rw0.g upd_same
          · obtain ⟨a, h1, h2, h3⟩ := rw0.ow i d hi
            obtain ⟨_, _, h2', h3'⟩ := (r0.wipe own).ow i d hi
            have hne : ∀ b, H0 b ≠ none → b ≠ Dl := fun b hb e => hb (by rw [e]; exact hD)
            refine ⟨a, h1, h2, ?_⟩
            cases d with
            | lst xs =>
              obtain ⟨g1, vs, g2, g3⟩ := h3
              refine ⟨?_, vs, g2, g3⟩
              obtain ⟨a', ha', ka', oa'⟩ := (r0.wipe own).ow i _ hi
              rw [h1] at ha'
              cases ha'
              obtain ⟨u, hu, _⟩ := oa'.at
              rw [upd_ne (hne a (by rw [hu]; simp))]
              exact g1
            | ins c ns xs =>
              obtain ⟨a', ha', ka', oa'⟩ := (r0.wipe own).ow i _ hi
              rw [h1] at ha'
              cases ha'
              obtain ⟨g1, dx, vs, g2, g3, g4, g5, g6⟩ := oa'
              refine ⟨?_, dx, vs, Ex.new hD _ _ g2, Ex.new hD _ _ g3, g4, g5, ?_⟩
              · rw [upd_ne (hne a (by rw [g2]; simp))]; exact g1
              · rw [upd_ne (hne dx (by rw [g3]; simp))]; exact g6
            | dic ks xs =>
              obtain ⟨g1, vs, g2, g3⟩ := h3
              refine ⟨?_, vs, g2, g3⟩
              obtain ⟨a', ha', ka', oa'⟩ := (r0.wipe own).ow i _ hi
              rw [h1] at ha'
              cases ha'
              obtain ⟨u, hu, _⟩ := oa'.at
              rw [upd_ne (hne a (by rw [hu]; simp))]
              exact g1
            | _ => exact h3.elim
      · rintro i m H1 ⟨rfl, hi, env1, Hk1, accV, acc, r1, k1, kd1, ra, out, e2, z2, q2⟩
        obtain ⟨s1, s2⟩ := sv i Hk1 H1 k1.ex r1.hk
        have Gup : Ex G (upd G Dl (.lst accV)) := Ex.new gD
        by_cases hlt : i < ds.length
        · right
          have hd : ds[i]? = some ds[i] := List.getElem?_eq_getElem hlt
          obtain ⟨go, yl⟩ := s1 _ hd
          refine ⟨go, fun H' => ∃ env Hk accV acc, RE (y.ct X) y.xa (upd G Dl (.lst accV)) env (wipe σ own) Hk H' ∧ Kx G Hk0 Hk ∧ Hk Dl = none ∧ RpL (y.ct X) Hk acc accV ∧
            ∃ out e2, mLcLoop g own test el (ds.drop (i + 1)) acc env = .ok out e2 ∧ PoE (y.ct X) y.xa y.W G σ Hk (.ok (.new (.lst out)) (restore own e1 e2)) Q, fun H' hh => ⟨ds.length - (i + 1), by omega, rfl, by omega, hh⟩, fun x H' hy => ?_⟩
          obtain ⟨Hk2, k2, r2, rx⟩ := r1.res (yl x H' hy)
          rw [List.drop_eq_getElem_cons hlt] at z2
          unfold mLcLoop at z2
          have gk : ∀ {A B : Hp}, Kx (upd G Dl (.lst accV)) A B → Kx G A B := fun k => ⟨k.ex, fun b o h1 h2 => Gup.back (k.new b o h1 h2)⟩
          have dk : ∀ {A B : Hp}, Kx (upd G Dl (.lst accV)) A B → A Dl = none → B Dl = none := fun {A B} k h => by
            cases zz : B Dl with
            | none => rfl
            | some o => have := k.new Dl o zz h; rw [upd_same] at this; cases this
          refine ⟨env1, Hk2, upd G Dl (.lst accV), ds[i], by rw [hct]; exact r2, by rw [hct]; exact rx, ?_⟩
          cases z3 : g ds[i] env1 with
          | none => rw [z3] at z2; cases z2
          | some ea =>
            rw [z3] at z2
            dsimp only at z2 ⊢
            intro σ2 r3 l3 f3
            rw [hct] at r3
            have w3 : wipe σ2 own = wipe σ own := by
              rw [wipe_eq (σ := wipe σ own) (τ := σ2) l3 fun j hj => f3 j fun hh => hj (sub j hh)]
              exact wipe_eq (wipe_length σ own) fun j hj => wipe_get hj
            refine ⟨w3, ea, Hk2, upd G Dl (.lst accV), by rw [hct]; exact r3, ?_⟩
            cases z4 : test ea with
            | bad => rw [z4] at z2; cases z2
            | ex c ns xs eb => rw [z4] at z2; cases z2
            | ok b eb =>
              rw [z4] at z2
              intro Hk3 H3 k3 r4
              rw [hct] at r4
              cases b with
              | false =>
                rw [if_neg Bool.false_ne_true]
                dsimp only at z2
                have kk := (gk k2).trans (gk k3)
                refine ⟨wipeE own eb, Hk3, accV, acc, ?_, k1.trans kk, dk k3 (dk k2 kd1), ra.mono kk.ex, out, e2, z2, PoE.kx (r := .ok _ _) kk q2⟩
                rw [← w3]
                exact r4.wipe own
              | true =>
                rw [if_pos rfl]
                dsimp only at z2
                refine ⟨eb, Hk3, upd G Dl (.lst accV), by rw [hct]; exact r4, ?_⟩
                cases z5 : el eb with
                | bad => rw [z5] at z2; cases z2
                | ex c ns xs ec => rw [z5] at z2; cases z2
                | ok t ec =>
                  rw [z5] at z2
                  intro w Hk4 H4 k4 r5 rt5
                  rw [hct] at r5 rt5
                  dsimp only at z2
                  rcases force_cases t ec with ⟨xd, ed, z6⟩ | z6
                  · rw [z6] at z2
                    dsimp only at z2
                    obtain ⟨Hk5, k5, r6, rd⟩ := rt5.force r5 z6
                    split at z2
                    · rename_i hlen
                      have hDl : H4 Dl = some (.lst accV) := r6.g Dl _ upd_same
                      have kk := ((gk k2).trans (gk k3)).trans ((gk k4).trans (gk k5))
                      have kd5 : Hk5 Dl = none := dk k5 (dk k4 (dk k3 (dk k2 kd1)))
                      have rl : RpL (y.ct X) Hk5 (acc ++ [xd]) (accV ++ [w]) := (ra.mono kk.ex).append (.cons rd .nil)
                      refine ⟨accV, hDl, by rw [← ra.len]; exact lim_line hlen, wipeE own ed, Hk5, accV ++ [w], acc ++ [xd], ?_, k1.trans kk, kd5, rl, out, e2, z2, PoE.kx (r := .ok _ _) kk q2⟩
                      have r7 := r6.wipe own
                      rw [w3] at r7
                      have atD : ∃ u, H4 Dl = some u ∧ isOw u := ⟨_, hDl, trivial⟩
                      have ne7 : ∀ (j : Nat) (d : D) (a : Addr), (wipeE own ed)[j]? = some (.ow d) → (wipe σ own)[j]? = some (some (.ref a)) → a ≠ Dl := fun j d a hj ha e => by
                        obtain ⟨_, oa⟩ := r7.owAt hj ha
                        have := oa.g
                        rw [e, upd_same] at this
                        cases this
                      refine ⟨r7.len, r7.hk.mut kd5, ?_, r7.sh, fun j d hj => ?_, r7.inj, fun j c ns xs hj => ?_, r7.pn⟩
                      · intro b o hb
                        by_cases e : b = Dl
                        · subst e; rw [upd_same] at hb ⊢; exact hb
                        · rw [upd_ne e] at hb ⊢
                          exact r7.g b o (by rw [upd_ne e]; exact hb)
                      · obtain ⟨a, h1, h2, h3⟩ := r7.ow j d hj
                        have ne := ne7 j d a hj h1
                        have o3 := h3.other (o := .lst (accV ++ [w])) atD ne
                        refine ⟨a, h1, h2, ?_⟩
                        cases d with
                        | lst xs =>
                          obtain ⟨g1, g2⟩ := o3
                          exact ⟨by rw [upd_ne ne] at g1 ⊢; exact g1, g2⟩
                        | ins c ns xs =>
                          obtain ⟨g1, dx, vs, g2, g3, g4, g5, g6⟩ := o3
                          have nx : dx ≠ Dl := fun e => by rw [e, upd_same] at g3; cases g3
                          exact ⟨by rw [upd_ne ne] at g1 ⊢; exact g1, dx, vs, g2, g3, g4, g5, by rw [upd_ne nx] at g6 ⊢; exact g6⟩
                        | dic ks xs =>
                          obtain ⟨g1, g2⟩ := o3
                          exact ⟨by rw [upd_ne ne] at g1 ⊢; exact g1, g2⟩
                        | _ => exact o3.elim
                      · obtain ⟨a, cls, dd, h1, h2, h3⟩ := r7.xv j c ns xs hj
                        exact ⟨a, cls, dd, h1, h2, h3.other atD⟩
                    · cases z2
                  · rw [z6] at z2; cases z2
        · left
          have hl : ds.length ≤ i := by omega
          refine ⟨s2 hl, ?_⟩
          rw [List.drop_eq_nil_of_le hl] at z2
          unfold mLcLoop at z2
          cases z2
          have rD : H1 Dl = some (.lst accV) := r1.g Dl _ upd_same
          have rG : RE (y.ct X) y.xa G env1 (wipe σ own) Hk1 H1 := ⟨r1.len, r1.hk, Gup.trans r1.g, r1.sh, fun j d hj => by
            obtain ⟨a, h1, h2, h3⟩ := r1.ow j d hj
            exact ⟨a, h1, h2, h3.gmono Gup⟩, r1.inj, r1.xv, r1.pn⟩
          have rF := rG.restore (env0 := e1) own nd fun j hj => by
            rcases n1 j hj with zz | ⟨d, w, z1, z2, z3⟩
            · exact .inl zz
            · exact .inr ⟨d, w, z1, z2, z3.mono k1.ex⟩
          refine q2 (.ref Dl) Hk1 H1 (Kx.refl _ _) rF ⟨Dl, rfl, kd1, ⟨gD, accV, rD, ra⟩, fun j d' hj hs => ?_⟩
          obtain ⟨h1, h2⟩ := restore_ow (own := own) (fun j hj => by
            rcases n1 j hj with zz | ⟨d, w, z1, _⟩
            · exact .inl zz
            · exact .inr ⟨d, z1⟩) hj
          rw [← wipe_get h2] at hs
          obtain ⟨_, oa⟩ := r1.owAt h1 hs
          have := oa.g
          rw [upd_same] at this
          cases this
    · rw [if_neg hn] at q; exact q.elim
theorem px_lc {scope : Scope} {own : List (Str × Nat)} {mi : M (List D)} {g : D → Env → Option Env} {sl : List Nat} {test : M Bool} {el : M Tk} (hc : X.calm = true) (hN : X.N.Nodup) (hi : PIx X y tg iter mi) (ok : BlkOk X.N X.env.scope scope own)
    (hg : ∀ (s : Shared) (H : Hp) (C : Addr) (cl : List (Str × Addr)) (fp : List Addr), PGx (X.blk s H scope (compEnvC scope cl C X.env) fp) y.blk tg sl g)
    (ht : ∀ (s : Shared) (H : Hp) (C : Addr) (cl : List (Str × Addr)) (fp : List Addr), PBs (X.blk s H scope (compEnvC scope cl C X.env) fp) y.blk ifs test)
    (he : ∀ (s : Shared) (H : Hp) (C : Addr) (cl : List (Str × Addr)) (fp : List Addr), PX (X.blk s H scope (compEnvC scope cl C X.env) fp) y.blk elt el)
    (nd : (own.map (·.2)).Nodup := by decide) (sub : ∀ i ∈ sl, i ∈ own.map (·.2) := by decide) (hs : ∀ x, foldedSetIterable iter X.env x = pure x := by intro _; rfl) :
    PX X y (.ListComp elt [⟨tg, iter, ifs, 0⟩] scope pos) (mLc mi g (own.map (·.2)) test el) :=
  ⟨PE_imp (pe_lc hc hN hi.pi ok (fun s H C cl fp => (hg s H C cl fp).pg) (fun s H C cl fp => (ht s H C cl fp).pts) (fun s H C cl fp => (he s H C cl fp).pe) hs) fun σ H Q h => t_lc (X' := X) rfl nd sub h⟩
theorem psx_setLc {i : Nat} {v : Str} {py spos : Pos} {scope : Scope} {own : List (Str × Nat)} {mi : M (List D)} {g : D → Env → Option Env} {sl : List Nat} {test : M Bool} {el : M Tk} (hc : X.calm = true) (hN : X.N.Nodup) (hi : PIx X y tg iter mi) (ok : BlkOk X.N X.env.scope scope own)
    (hg : ∀ (s : Shared) (H : Hp) (C : Addr) (cl : List (Str × Addr)) (fp : List Addr), PGx (X.blk s H scope (compEnvC scope cl C X.env) fp) y.blk tg sl g)
    (ht : ∀ (s : Shared) (H : Hp) (C : Addr) (cl : List (Str × Addr)) (fp : List Addr), PBs (X.blk s H scope (compEnvC scope cl C X.env) fp) y.blk ifs test)
    (he : ∀ (s : Shared) (H : Hp) (C : Addr) (cl : List (Str × Addr)) (fp : List Addr), PX (X.blk s H scope (compEnvC scope cl C X.env) fp) y.blk elt el)
    (hy : X.N[i]? = some v := by rfl) (hyl : X.env.scope.names.lookup v = some .local := by rfl) (h0 : i ≠ 0 ∨ y.xa.p = none := by first | exact .inl (by decide) | exact .inr rfl)
    (hsw : swapsWith (.ListComp elt [⟨tg, iter, ifs, 0⟩] scope pos) (some (.Name v py)) spos.line X.env = pure true := by exact sw_true rfl rfl rfl (by decide +kernel))
    (nd : (own.map (·.2)).Nodup := by decide) (sub : ∀ i ∈ sl, i ∈ own.map (·.2) := by decide) (hs : ∀ x, foldedSetIterable iter X.env x = pure x := by intro _; rfl) :
    PSx X y (.Assign [.Name v py] (.ListComp elt [⟨tg, iter, ifs, 0⟩] scope pos) spos) (mAsg i (mLc mi g (own.map (·.2)) test el)) :=
  ⟨PS_imp (ps_setLc hc hN hy hyl hsw hi.pi ok (fun s H C cl fp => (hg s H C cl fp).pg) (fun s H C cl fp => (ht s H C cl fp).pts) (fun s H C cl fp => (he s H C cl fp).pe) hs) fun D σ H ⟨env, Hk, G, re, q⟩ =>
    t_lc (X' := X) (Q := fun x H1 => gName i x σ H1 D.nx) rfl nd sub ⟨env, Hk, G, re, ps_bind q fun t e v Hk' H1 k1 r1 rt1 q1 => store_go h0 r1 rt1 q1⟩⟩
end
end VM

set_option Elab.async false
set_option linter.all false
set_option maxRecDepth 100000
set_option maxHeartbeats 1000000
/-! VM 9: defs, and calls that change the caller's own object -/
namespace VM
open PySem PySem.Spec PyProof.Rows L2
/-- a token handed back: from a slot its object goes with it -/
def outTk (t : Tk) (e : Env) : Option (Bool × D) := match t with
  | .val d => some (false, d)
  | .new d => some (true, d)
  | .slot k => match e[k]? with
    | some (.sh d) => some (false, d)
    | some (.ow d) => some (true, d)
    | _ => none
def fin (r : Rs Fl) : Rf := match r with
  | .ok .nx _ => .ok false .non .non
  | .ok (.rt t) e => match outTk t e with
    | some (nw, d) => .ok nw d .non
    | none => .bad
  | .ex c ns ds _ => .ex c ns ds .non
  | _ => .bad
def entry (n : Nat) (ds : List D) : Env := ds.map .sh ++ List.replicate (n - ds.length) .no
def mkF (n : Nat) (body : M Fl) : List D → Rf := fun ds => fin (body (entry n ds))
theorem entry_re {C : Ct} {H Hk : Hp} {N : List Str} {ds : List D} {vs : List V} {x : Option (Addr × Value × Option Addr)} (e : Ex Hk H) (h : RpL C Hk ds vs) (hl : vs.length ≤ N.length) : RE C ⟨x, none⟩ H (entry N.length ds) (L2.start N vs) Hk H := by
  have hlen := h.len
  have get : ∀ {i : Nat} {s : S}, (entry N.length ds)[i]? = some s → (∃ d v, s = .sh d ∧ (L2.start N vs)[i]? = some (some v) ∧ Rp C Hk d v) ∨ s = .no := fun {i s} hi => by
    unfold entry at hi
    by_cases q : i < ds.length
    · rw [List.getElem?_append_left (by simpa using q), List.getElem?_map, List.getElem?_eq_getElem q] at hi
      cases hi
      obtain ⟨v, hv, rv⟩ := h.get (List.getElem?_eq_getElem q)
      refine .inl ⟨_, v, rfl, ?_, rv⟩
      unfold L2.start
      rw [List.getElem?_append_left (by simp; omega), List.getElem?_map, hv]
      rfl
    · rw [List.getElem?_append_right (by simp; omega), List.getElem?_replicate] at hi
      split at hi
      · cases hi; exact .inr rfl
      · cases hi
  refine ⟨?_, e, Ex.refl H, fun i d hi => ?_, fun i d hi => ?_, fun i j d d' a h1 _ _ _ => ?_, fun i c ns xs hi => ?_, fun a d hp _ => by cases hp⟩
  · unfold entry L2.start
    simp
    omega
  · rcases get hi with ⟨d', v, e1, e2, e3⟩ | z
    · cases e1; exact ⟨v, e2, e3⟩
    · cases z
  · rcases get hi with ⟨d', v, e1, e2, e3⟩ | z
    · cases e1
    · cases z
  · rcases get h1 with ⟨d', v, e1, e2, e3⟩ | z
    · cases e1
    · cases z
  · rcases get hi with ⟨d', v, e1, e2, e3⟩ | z
    · cases e1
    · cases z
theorem outTk_bk {C : Ct} {xa : Xa} {G : Hp} {e : Env} {σ : L2.St} {Hk H : Hp} {t : Tk} {v : V} {nw : Bool} {d : D} (r : RE C xa G e σ Hk H) (rt : RT C G e σ Hk H t v) (h : outTk t e = some (nw, d)) : Bk C G Hk H nw d v := by
  cases t with
  | val x => cases h; exact rt
  | new x =>
    cases h
    obtain ⟨a, rfl, h1, h2, _⟩ := rt
    exact ⟨a, rfl, h1, h2⟩
  | slot k =>
    have rt : σ[k]? = some (some v) := rt
    unfold outTk at h
    dsimp only at h
    split at h
    · rename_i x hx
      cases h
      obtain ⟨w, h1, h2⟩ := r.sh k _ hx
      rw [rt] at h1
      cases h1
      exact h2
    · rename_i x hx
      cases h
      obtain ⟨a, h1, h2, h3⟩ := r.ow k _ hx
      rw [rt] at h1
      cases h1
      exact ⟨a, rfl, h2, h3⟩
    · cases h
section
variable {P : Program} {w : World} {K : PySem.W.Frag} {mg : Str → Option Value} {base : Heap} {cm : Nat → Addr}
/-- what a def's body stands in -/
abbrev yF (cm : Nat → Addr) (E : XK) : Y := ⟨cm, ⟨none, none⟩, fun cls d _ H => E cls d H⟩
theorem fn_ok {x qual : Str} {st : Stmt} {f : Addr} {fd : FuncData} {N ps : List Str} {k : Nat} {body : M Fl} (F : Fun K x qual st f fd) (S : FnScope N ps (defScope st)) (hl : ps.length ≤ N.length)
    (hb : ∀ (cdv : Value) (A : Around) (outer : List PySem.Env) (s : Shared) (H : Hp) (E : XK), Room k (A.deeper (envOfC qual (defScope st) s.heap.objs.size f cdv)) →
      PSSx (cxOf (L2.CX P w) P w K mg base N qual (defScope st) f cdv A outer s H E) (yF cm E) (defBody st) body) :
    FnOk P w K mg base (L2.CX P w) (k + 1) f fd ps (spF ⟨K, cm⟩ ps.length (mkF N.length body)) := by
  refine F.okX S (fun vs H Q E h => h.1) fun cdv A outer s H vs Q E hr h => ⟨_, (hb cdv A outer s H E hr).pss, ?_⟩
  obtain ⟨hn, ds, Hk, e, rl, q⟩ := h
  refine ⟨entry N.length ds, Hk, H, entry_re e rl (by omega), ?_⟩
  unfold mkF at q
  cases z : body (entry N.length ds) with
  | bad => rw [z] at q; exact q.elim
  | ex c ns xs e1 =>
    rw [z] at q
    exact fun cls dd σ' Hk' H' k' r' rx => q cls dd Hk' H' k' r'.hk r'.g rx
  | ok fl e1 =>
    rw [z] at q
    cases fl with
    | nx => exact fun σ' Hk' H' k' r' => q .non Hk' H' k' r'.hk r'.g (rp_non (C := ⟨K, cm⟩) (H := Hk'))
    | bk => exact q.elim
    | ct => exact q.elim
    | rt t =>
      intro v σ' Hk' H' k' r' rt
      unfold fin at q
      dsimp only at q
      cases z2 : outTk t e1 with
      | none => rw [z2] at q; exact q.elim
      | some o =>
        obtain ⟨nw, d⟩ := o
        rw [z2] at q
        exact q v Hk' H' k' r'.hk r'.g (outTk_bk r' rt z2)
/-! ### defs whose first argument's object may change -/
def own0 (e : Env) : Option D := match e[(0 : Nat)]? with
  | some (.ow p) => some p
  | _ => none
def isS0 : Tk → Bool
  | .slot 0 => true
  | _ => false
def finIO (r : Rs Fl) : Rf := match r with
  | .ok .nx e => match own0 e with
    | some p => .ok false .non p
    | none => .bad
  | .ok (.rt t) e => if isS0 t = true then .bad else match outTk t e, own0 e with
    | some (nw, d), some p => .ok nw d p
    | _, _ => .bad
  | .ex c ns ds e => match own0 e with
    | some p => .ex c ns ds p
    | none => .bad
  | _ => .bad
def entryIO (n : Nat) (d0 : D) (ds : List D) : Env := .ow d0 :: entry (n - 1) ds
def mkIO (n : Nat) (body : M Fl) : List D → Rf := fun ds => match ds with
  | d0 :: r => finIO (body (entryIO n d0 r))
  | [] => .bad
abbrev yIO (cm : Nat → Addr) (a : Addr) (E : XK) : Y := ⟨cm, ⟨none, some a⟩, fun cls d _ H => E cls d H⟩
theorem own0_at {e : Env} {p : D} (h : own0 e = some p) : e[0]? = some (.ow p) := by
  unfold own0 at h
  split at h
  · rename_i z; cases h; exact z
  · cases h
theorem entryIO_re {C : Ct} {G H Hk : Hp} {N : List Str} {d0 : D} {ds : List D} {a : Addr} {vs : List V} (e : Ex Hk H) (g : Ex G H) (h0 : Hk a = none) (o : OwA C G Hk H a d0) (h : RpL C Hk ds vs) (hl : vs.length + 1 ≤ N.length) :
    RE C ⟨none, some a⟩ G (entryIO N.length d0 ds) (L2.start N (.ref a :: vs)) Hk H := by
  obtain ⟨N0, NN, rfl⟩ : ∃ n0 nn, N = n0 :: nn := by
    cases N with
    | nil => simp at hl
    | cons n0 nn => exact ⟨n0, nn, rfl⟩
  have r0 := entry_re (C := C) (H := H) (N := NN) (x := none) e h (by simpa using hl)
  have es : L2.start (N0 :: NN) (.ref a :: vs) = some (.ref a) :: L2.start NN vs := by
    unfold L2.start
    simp
  rw [es]
  have ee : entryIO (N0 :: NN).length d0 ds = .ow d0 :: entry NN.length ds := rfl
  rw [ee]
  have nosl : ∀ {i : Nat} {d : D}, (entry NN.length ds)[i]? ≠ some (.ow d) := fun {i d} hi => by
    obtain ⟨b, _, _, _⟩ := r0.ow i d hi
    unfold entry at hi
    by_cases q : i < ds.length
    · rw [List.getElem?_append_left (by simpa using q), List.getElem?_map, List.getElem?_eq_getElem q] at hi
      cases hi
    · rw [List.getElem?_append_right (by simp; omega), List.getElem?_replicate] at hi
      split at hi <;> cases hi
  refine ⟨by simpa using r0.len, e, g, fun i d hi => ?_, fun i d hi => ?_, fun i j d d' b h1 h2 _ _ => ?_, fun i c ns xs hi => ?_, fun b d hp hi => by cases hp; rfl⟩
  · cases i with
    | zero => cases hi
    | succ i => exact r0.sh i d (by simpa using hi)
  · cases i with
    | zero => cases hi; exact ⟨a, rfl, h0, o⟩
    | succ i => exact absurd (by simpa using hi) (nosl (i := i) (d := d))
  · cases i with
    | zero =>
      cases j with
      | zero => rfl
      | succ j => exact absurd (by simpa using h2) (nosl (i := j) (d := d'))
    | succ i => exact absurd (by simpa using h1) (nosl (i := i) (d := d))
  · cases i with
    | zero => cases hi
    | succ i =>
      obtain ⟨b, cls, dd, h1, _⟩ := r0.xv i c ns xs (by simpa using hi)
      cases h1
theorem fnIO_ok {x qual : Str} {st : Stmt} {f : Addr} {fd : FuncData} {N ps : List Str} {k : Nat} {body : M Fl} (F : Fun K x qual st f fd) (S : FnScope N ps (defScope st)) (hl : ps.length ≤ N.length)
    (hb : ∀ (cdv : Value) (A : Around) (outer : List PySem.Env) (s : Shared) (H : Hp) (E : XK) (a : Addr), Room k (A.deeper (envOfC qual (defScope st) s.heap.objs.size f cdv)) →
      PSSx (cxOf (L2.CX P w) P w K mg base N qual (defScope st) f cdv A outer s H E) (yIO cm a E) (defBody st) body) :
    FnOk P w K mg base (L2.CX P w) (k + 1) f fd ps (spIO ⟨K, cm⟩ ps.length (mkIO N.length body)) := by
  refine F.okX S (fun vs H Q E h => h.1) fun cdv A outer s H vs Q E hr h => ?_
  obtain ⟨hn, a, vs', d0, ds, Hk, G, rfl, g, e, h0, o, rl, q⟩ := h
  refine ⟨_, (hb cdv A outer s H E a hr).pss, ?_⟩
  refine ⟨entryIO N.length d0 ds, Hk, G, entryIO_re e g h0 o rl (by simp at hn; omega), ?_⟩
  have at0 : ∀ {e1 : Env} {p : D} {σ' : L2.St} {Hk' H' : Hp}, RE ⟨K, cm⟩ ⟨none, some a⟩ G e1 σ' Hk' H' → own0 e1 = some p → Hk' a = none ∧ OwA ⟨K, cm⟩ G Hk' H' a p := fun {e1 p σ' Hk' H'} r hp => by
    have h1 := own0_at hp
    exact r.owAt h1 (r.pn a p rfl h1)
  unfold mkIO at q
  dsimp only at q
  cases z : body (entryIO N.length d0 ds) with
  | bad => rw [z] at q; exact q.elim
  | ex c ns xs e1 =>
    rw [z] at q
    unfold finIO at q
    dsimp only at q
    cases z1 : own0 e1 with
    | none => rw [z1] at q; exact q.elim
    | some p =>
      rw [z1] at q
      exact fun cls dd σ' Hk' H' k' r' rx => q cls dd Hk' H' k' r'.hk r'.g (at0 r' z1).1 (at0 r' z1).2 rx
  | ok fl e1 =>
    rw [z] at q
    unfold finIO at q
    cases fl with
    | nx =>
      dsimp only at q
      cases z1 : own0 e1 with
      | none => rw [z1] at q; exact q.elim
      | some p =>
        rw [z1] at q
        exact fun σ' Hk' H' k' r' => q .non Hk' H' k' r'.hk r'.g (at0 r' z1).1 (at0 r' z1).2 (fun h => by cases h) (rp_non (C := ⟨K, cm⟩) (H := Hk'))
    | bk => exact q.elim
    | ct => exact q.elim
    | rt t =>
      dsimp only at q
      intro v σ' Hk' H' k' r' rt
      by_cases z0 : isS0 t = true
      · rw [if_pos z0] at q; exact q.elim
      · rw [if_neg z0] at q
        cases z2 : outTk t e1 with
        | none => rw [z2] at q; exact q.elim
        | some ob =>
          obtain ⟨nw, d⟩ := ob
          cases z1 : own0 e1 with
          | none => rw [z2, z1] at q; exact q.elim
          | some p =>
            rw [z2, z1] at q
            have a0 := own0_at z1
            have s0 := r'.pn a p rfl a0
            refine q v Hk' H' k' r'.hk r'.g (at0 r' z1).1 (at0 r' z1).2 (fun hnw hv => ?_) (outTk_bk r' rt z2)
            subst hv
            cases t with
            | val x => cases z2; cases hnw
            | new x =>
              obtain ⟨b, hb1, _, _, h4⟩ := rt
              cases hb1
              exact h4 0 p a0 s0
            | slot j =>
              have rt : σ'[j]? = some (some (.ref a)) := rt
              unfold outTk at z2
              dsimp only at z2
              split at z2
              · cases z2; cases hnw
              · rename_i x hx
                have := r'.inj j 0 x p a hx a0 rt s0
                subst this
                exact z0 rfl
              · cases z2
end

/-! ### calls that change the object of slot k -/
section
variable {C : Ct} {xa : Xa} {G Hk Hk' H H' : Hp} {a : Addr} {d : D}
/-- what others may rely on, but for the object at a -/
theorem OwA.cut (g : Ex G H) (h : OwA C G Hk H a d) : ∃ G', Ex G G' ∧ Ex G' H ∧ OwA C G' Hk H a d ∧ ∀ b o, H b = some o → b ≠ a → o ≠ .own a → G' b = some o := by
  cases d with
  | lst xs =>
    obtain ⟨g1, vs, h1, h2⟩ := h
    refine ⟨fun b => if b = a then none else H b, fun b o hb => ?_, fun b o hb => ?_, ⟨by simp, vs, h1, h2⟩, fun b o hb ne _ => by simp [ne, hb]⟩
    · have : b ≠ a := fun e => by rw [e, g1] at hb; cases hb
      simp [this, g b o hb]
    · by_cases e : b = a
      · simp [e] at hb
      · simpa [e] using hb
  | ins c ns xs =>
    obtain ⟨g1, dx, vs, h1, h2, h3, h4, h5⟩ := h
    refine ⟨fun b => if b = a ∨ b = dx then none else H b, fun b o hb => ?_, fun b o hb => ?_, ⟨by simp, dx, vs, h1, h2, h3, h4, by simp⟩, fun b o hb ne no => ?_⟩
    · have e1 : b ≠ a := fun e => by rw [e, g1] at hb; cases hb
      have e2 : b ≠ dx := fun e => by rw [e, h5] at hb; cases hb
      simp [e1, e2, g b o hb]
    · by_cases e : b = a ∨ b = dx
      · simp [e] at hb
      · simpa [e] using hb
    · have : b ≠ dx := fun e => by rw [e, h2] at hb; cases hb; exact no rfl
      simp [ne, this, hb]
  | dic ks xs =>
    obtain ⟨g1, vs, h1, h2, h3⟩ := h
    refine ⟨fun b => if b = a then none else H b, fun b o hb => ?_, fun b o hb => ?_, ⟨by simp, vs, h1, h2, h3⟩, fun b o hb ne _ => by simp [ne, hb]⟩
    · have : b ≠ a := fun e => by rw [e, g1] at hb; cases hb
      simp [this, g b o hb]
    · by_cases e : b = a
      · simp [e] at hb
      · simpa [e] using hb
  | _ => exact h.elim
theorem RE.backIO {G' : Hp} {e : Env} {σ : L2.St} {k : Nat} {p : D} (r : RE C xa G e σ Hk H) (hk : e[k]? = some (.ow d)) (hs : σ[k]? = some (some (.ref a))) (gg : Ex G G') (keep : ∀ b o, H b = some o → b ≠ a → o ≠ .own a → G' b = some o)
    (k1 : Kx G' Hk Hk') (x1 : Ex Hk' H') (x2 : Ex G' H') (h0 : Hk' a = none) (o : OwA C G' Hk' H' a p) : RE C xa G (e.set k (.ow p)) σ Hk' H' ∧ Kx G Hk Hk' := by
  have ow_keep : ∀ (i : Nat) (x : D), i ≠ k → e[i]? = some (.ow x) → ∃ b, b ≠ a ∧ σ[i]? = some (some (.ref b)) ∧ Hk' b = none ∧ OwA C G Hk' H' b x := fun i x ne hi => by
    obtain ⟨b, h1, h2, h3⟩ := r.ow i x hi
    have nb : b ≠ a := fun z => by
      subst z
      exact ne (r.inj i k x d b hi hk h1 hs)
    obtain ⟨u, hu, iu⟩ := h3.at
    have no : u ≠ .own a := fun z => by rw [z] at iu; exact iu
    refine ⟨b, nb, h1, ?_, ?_⟩
    · cases z : Hk' b with
      | none => rfl
      | some o' =>
        have := k1.new b o' z h2
        rw [keep b u hu nb no] at this
        cases this
    · cases x with
      | lst xs =>
        obtain ⟨g1, vs, g2, g3⟩ := h3
        exact ⟨g1, vs, x2 _ _ (keep _ _ g2 nb (fun z => by cases z)), g3.mono k1.ex⟩
      | ins c ns xs =>
        obtain ⟨g1, dx, vs, g2, g3, g4, g5, g6⟩ := h3
        have ndx : dx ≠ a := fun z => by
          rw [z] at g3
          obtain ⟨_, oa⟩ := r.owAt hk hs
          obtain ⟨u, hu, iu⟩ := oa.at
          rw [g3] at hu
          cases hu
          exact iu.elim
        exact ⟨g1, dx, vs, x2 _ _ (keep _ _ g2 nb (fun z => by cases z)), x2 _ _ (keep _ _ g3 ndx (fun z => by cases z; exact nb rfl)), g4, g5.mono k1.ex, g6⟩
      | dic ks xs =>
        obtain ⟨g1, vs, g2, g3, g4⟩ := h3
        exact ⟨g1, vs, x2 _ _ (keep _ _ g2 nb (fun z => by cases z)), g3, g4.mono k1.ex⟩
      | _ => exact h3.elim
  refine ⟨⟨by simpa using r.len, x1, gg.trans x2, fun i x hi => ?_, fun i x hi => ?_, fun i j x x' b h1 h2 s1 s2 => ?_, fun i c ns xs hi => ?_, fun b x hp hi => ?_⟩, k1.ex, fun b o' h1 h2 => gg.back (k1.new b o' h1 h2)⟩
  · rcases set_get hi with ⟨_, _, z⟩ | ⟨_, hi⟩
    · cases z
    · obtain ⟨v, h1, h2⟩ := r.sh i x hi
      exact ⟨v, h1, h2.mono k1.ex⟩
  · rcases set_get hi with ⟨z, _, z2⟩ | ⟨ne, hi⟩
    · subst z
      cases z2
      exact ⟨a, hs, h0, o.gmono gg⟩
    · obtain ⟨b, _, h1, h2, h3⟩ := ow_keep i x (Ne.symm ne) hi
      exact ⟨b, h1, h2, h3⟩
  · have f : ∀ {m : Nat} {y : D}, (e.set k (.ow p))[m]? = some (.ow y) → ∃ y', e[m]? = some (.ow y') := fun {m y} hm => by
      rcases set_get hm with ⟨z, _, _⟩ | ⟨_, hm⟩
      · subst z; exact ⟨d, hk⟩
      · exact ⟨y, hm⟩
    obtain ⟨y1, q1⟩ := f h1
    obtain ⟨y2, q2⟩ := f h2
    exact r.inj i j y1 y2 b q1 q2 s1 s2
  · rcases set_get hi with ⟨_, _, z⟩ | ⟨_, hi⟩
    · cases z
    · obtain ⟨b, cls, dd, h1, h2, h3, h4⟩ := r.xv i c ns xs hi
      refine ⟨b, cls, dd, h1, h2, h3, ?_⟩
      rcases h4 with h4 | ⟨dx, vs, e1, e2, e3, e4⟩
      · exact .inl h4
      · have ndx : dx ≠ a := fun z => by
          rw [z] at e2
          obtain ⟨_, oa⟩ := r.owAt hk hs
          obtain ⟨u, hu, iu⟩ := oa.at
          rw [e2] at hu
          cases hu
          exact iu.elim
        exact .inr ⟨dx, vs, e1, x2 _ _ (keep _ _ e2 ndx (fun z => by cases z)), e3, e4.mono k1.ex⟩
  · rcases set_get hi with ⟨z, _, _⟩ | ⟨_, hi⟩
    · subst z
      exact r.pn b d hp hk
    · exact r.pn b x hp hi
end
section
variable {X : Cx} {y : Y} {a b c e o : Expr} {es : List Expr} {m m1 m2 m3 : M Tk} {ma : M (List Tk)} {pos p p2 : Pos}
def isOwn (k : Nat) (env : Env) : Bool := match env[k]? with
  | some (.ow _) => true
  | _ => false
def owD (k : Nat) (env : Env) : Option D := match env[k]? with
  | some (.ow d) => some d
  | _ => none
theorem owD_at {k : Nat} {env : Env} {d : D} (h : owD k env = some d) : env[k]? = some (.ow d) := by
  unfold owD at h
  split at h
  · rename_i z; cases h; exact z
  · cases h
def mCallIO (F : List D → Rf) (k : Nat) (ma : M (List Tk)) : M Tk := fun env => match owD k env with
  | none => .bad
  | some _ => mBind ma (fun ts e1 => match forceAll ts e1 with
    | .ok ds e2 => match owD k e2 with
      | none => .bad
      | some d0 => match F (d0 :: ds) with
        | .ok nw d p => .ok (tkOf nw d) (e2.set k (.ow p))
        | .ex c ns xs p => .ex c ns xs (e2.set k (.ow p))
        | .bad => .bad
    | _ => .bad) env
variable {F : List D → Rf} {k : Nat} {f : Addr} {fd : FuncData} {ps : List Str} {x : Str} {j : Nat}
/-- f(x, e, ..), x the name of slot j, whose object f may change -/
theorem px_callIO (FO : FnOk X.prog X.w X.K X.mg X.base (L2.CX X.prog X.w) k f fd ps (spIO (y.ct X) ps.length F)) (hr : Room k X.A) (hm : X.mg x = some (.ref f)) (hk : PySem.W.keepIn X.K (.ref f) = true) (hb : Binds X.K fd ps []) (tk : Takes X y.W)
    {nn : Nat} (hn : Many ma nn) (hps : ps.length = nn + 1) (ho : PE X o (tVar j)) (ha : PAs X y es ma) (hg : Gl X x := by rfl) (hdb : (x == ("__debug__" : Str)) = false := by decide)
    (he : starEach (o :: es) X.env = (false, eval o X.env) :: starEach es X.env := by rfl) (hpl : (backTo pos (starEach es X.env)).any (·.1) = false := by rfl) :
    PX X y (.Call (.Name x p) (o :: es) [] pos) (mCallIO F j ma) := by
  refine ⟨PE_imp (pe_callSD FO hr hg hm hk hb .nil (fun σ => passAt tk σ) (pa_cons ho ha.pa he) hdb he hpl) fun σ H Q ⟨env, Hk, G, re, q⟩ => ?_⟩
  unfold mCallIO at q
  cases z : owD j env with
  | none => rw [z] at q; exact q.elim
  | some dd =>
    rw [z] at q
    obtain ⟨a0, ha0, _, _⟩ := re.ow j _ (owD_at z)
    refine ⟨.ref a0, ha0, env, Hk, G, re, pa_bindN hn q fun ts e1 vs Hk1 H1 k1 r1 rs hl q1 => ?_⟩
    show spIO (y.ct X) ps.length F (V.ref a0 :: (vs ++ [])) H1 Q (WE y.W σ)
    rw [List.append_nil]
    rcases forceAll_cases ts e1 with ⟨ds, e2, z1⟩ | z1
    · rw [z1] at q1
      dsimp only at q1
      obtain ⟨Hk2, k2, r2, rl⟩ := RVs.force r1 rs z1
      cases z2 : owD j e2 with
      | none => rw [z2] at q1; exact q1.elim
      | some d0 =>
        rw [z2] at q1
        dsimp only at q1
        have hj := owD_at z2
        obtain ⟨h0, oa⟩ := r2.owAt hj ha0
        obtain ⟨G', gg, gH, oa', keep⟩ := oa.cut r2.g
        refine ⟨by simp; rw [← rs.len, hl, hps], a0, vs, d0, ds, Hk2, G', rfl, gH, r2.hk, h0, oa', rl, ?_⟩
        cases z3 : F (d0 :: ds) with
        | bad => rw [z3] at q1; exact q1.elim
        | ok nw d p =>
          rw [z3] at q1
          dsimp only at q1 ⊢
          intro v Hk' H' kx x1 x2 n0 op hnv bk
          obtain ⟨r3, k3⟩ := r2.backIO hj ha0 gg keep kx x1 x2 n0 op
          refine q1 v Hk' H' (k2.trans k3) r3 ?_
          cases nw with
          | false => exact bk
          | true =>
            obtain ⟨b, rfl, b1, b2⟩ := bk
            refine ⟨b, rfl, b1, b2.gmono gg, fun i d' hi hs => ?_⟩
            rcases set_get hi with ⟨z, _, _⟩ | ⟨ne, hi⟩
            · subst z
              rw [ha0] at hs
              cases hs
              exact hnv rfl rfl
            · obtain ⟨_, ob⟩ := r2.owAt hi hs
              obtain ⟨u, hu, iu⟩ := ob.at
              have nb : b ≠ a0 := fun z => hnv rfl (by rw [z])
              have := b2.g
              rw [keep b u hu nb (fun z => by rw [z] at iu; exact iu)] at this
              cases this
        | ex c ns xs p =>
          rw [z3] at q1
          dsimp only at q1 ⊢
          intro cls dd Hk' H' kx x1 x2 n0 op rx
          obtain ⟨r3, k3⟩ := r2.backIO hj ha0 gg keep kx x1 x2 n0 op
          exact q1 cls dd Hk' H' (k2.trans k3) r3 rx
    · rw [z1] at q1; exact q1.elim
end
end VM

set_option Elab.async false
set_option linter.all false
set_option maxRecDepth 100000
set_option maxHeartbeats 1000000
/-! VM A: short words for the printed derivations -/
namespace VM
open PySem PySem.Spec PyProof.Rows L2
/-- a def of the text that may be called -/
structure CF (P : Program) (w : World) (K : PySem.W.Frag) (mg : Str → Option Value) (base : Heap) (cm : Nat → Addr) (x : Str) (k : Nat) (ps : List Str) (F : List D → Rf) : Prop where
  ex : ∃ f fd, FnOk P w K mg base (L2.CX P w) k f fd ps (spF ⟨K, cm⟩ ps.length F) ∧ mg x = some (.ref f) ∧ PySem.W.keepIn K (.ref f) = true ∧ Binds K fd ps []
structure CIO (P : Program) (w : World) (K : PySem.W.Frag) (mg : Str → Option Value) (base : Heap) (cm : Nat → Addr) (x : Str) (k : Nat) (ps : List Str) (F : List D → Rf) : Prop where
  ex : ∃ f fd, FnOk P w K mg base (L2.CX P w) k f fd ps (spIO ⟨K, cm⟩ ps.length F) ∧ mg x = some (.ref f) ∧ PySem.W.keepIn K (.ref f) = true ∧ Binds K fd ps []
section
variable {X : Cx} {y : Y} {a b c e o : Expr} {es rest : List Expr} {m m1 m2 m3 : M Tk} {ma : M (List Tk)} {n n1 n2 : M Bool} {pos p p2 : Pos} {F : List D → Rf} {k kk : Nat} {ps : List Str} {x : Str}
theorem px_callC (h : CF X.prog X.w X.K X.mg X.base y.cm x k ps F) (hr : Room kk X.A) (tk : Takes X y.W) (ha : PAs X y (e :: es) ma) (hn : Many ma ps.length := by repeat first | exact many_nil | refine many_cons ?_) (hk : k ≤ kk := by decide) (hg : Gl X x := by rfl) (hdb : (x == ("__debug__" : Str)) = false := by decide)
    (he : starEach (e :: es) X.env = (false, eval e X.env) :: starEach es X.env := by rfl) (hpl : (backTo pos (starEach es X.env)).any (·.1) = false := by rfl) : PX X y (.Call (.Name x p) (e :: es) [] pos) (mCallF F ma) := by
  obtain ⟨f, fd, h1, h2, h3, h4⟩ := h.ex
  exact px_call h1 (hr.mono hk) h2 h3 h4 tk hn ha hg hdb he hpl
theorem px_callI (j : Nat) (h : CIO X.prog X.w X.K X.mg X.base y.cm x k ps F) (hr : Room kk X.A) (tk : Takes X y.W) (ho : PE X o (tVar j)) (ha : PAs X y es ma) {nn : Nat} (hps : ps.length = nn + 1 := by rfl) (hn : Many ma nn := by repeat first | exact many_nil | refine many_cons ?_) (hk : k ≤ kk := by decide) (hg : Gl X x := by rfl) (hdb : (x == ("__debug__" : Str)) = false := by decide)
    (he : starEach (o :: es) X.env = (false, eval o X.env) :: starEach es X.env := by rfl) (hpl : (backTo pos (starEach es X.env)).any (·.1) = false := by rfl) : PX X y (.Call (.Name x p) (o :: es) [] pos) (mCallIO F j ma) := by
  obtain ⟨f, fd, h1, h2, h3, h4⟩ := h.ex
  exact px_callIO h1 (hr.mono hk) h2 h3 h4 tk hn hps ho ha hg hdb he hpl
theorem hu65 (hr : Room kk X.A) : X.A.units + 65 < cLine := by have := hr.un; omega
theorem px_lt (ha : PX X y a m1) (hb : PX X y b m2) : PX X y (.Compare a [.Lt] [b] pos) (mBin (lift cLt) m1 m2) := px_cmp op_lt cI_ok ha hb (nomark _)
theorem px_le (ha : PX X y a m1) (hb : PX X y b m2) : PX X y (.Compare a [.LtE] [b] pos) (mBin (lift cLe) m1 m2) := px_cmp op_le cI_ok ha hb (nomark _)
theorem px_gt (ha : PX X y a m1) (hb : PX X y b m2) : PX X y (.Compare a [.Gt] [b] pos) (mBin (lift cGt) m1 m2) := px_cmp op_gt cI_ok ha hb (nomark _)
theorem px_ge (ha : PX X y a m1) (hb : PX X y b m2) : PX X y (.Compare a [.GtE] [b] pos) (mBin (lift cGe) m1 m2) := px_cmp op_ge cI_ok ha hb (nomark _)
theorem px_eq (hr : Room kk X.A) (ha : PX X y a m1) (hb : PX X y b m2) : PX X y (.Compare a [.Eq] [b] pos) (mBin (lift cEq) m1 m2) := px_cmp (op_eqD hr.units) eq_ok ha hb (nomark _)
theorem px_ne (hr : Room kk X.A) (ha : PX X y a m1) (hb : PX X y b m2) : PX X y (.Compare a [.NotEq] [b] pos) (mBin (lift cNe) m1 m2) := px_cmp (op_neD hr.units) ne_ok ha hb (nomark _)
theorem px_is (ha : PX X y a m1) (hb : PX X y b m2) : PX X y (.Compare a [.Is] [b] pos) (mBin (lift cIs) m1 m2) := px_cmp op_isN is_ok ha hb (nomark _)
theorem px_isnot (ha : PX X y a m1) (hb : PX X y b m2) : PX X y (.Compare a [.IsNot] [b] pos) (mBin (lift cIsNot) m1 m2) := px_cmp op_notN isnot_ok ha hb (nomark _)
theorem px_in (hr : Room kk X.A) (ha : PX X y a m1) (hb : PX X y b m2) (hm : behindInMarks .In b = false := by rfl) : PX X y (.Compare a [.In] [b] pos) (mBin (lift cIn) m1 m2) := px_cmp (opR_or op_in_seq (op_inD (hu65 hr))) in_ok ha hb hm
theorem px_notin (hr : Room kk X.A) (ha : PX X y a m1) (hb : PX X y b m2) (hm : behindInMarks .NotIn b = false := by rfl) : PX X y (.Compare a [.NotIn] [b] pos) (mBin (lift cNotIn) m1 m2) := px_cmp (opR_or op_notIn_seq (op_notInD (hu65 hr))) notin_ok ha hb hm
theorem pb_lt (ha : PX X y a m1) (hb : PX X y b m2) : PB X y (.Compare a [.Lt] [b] pos) (mCmp cLt m1 m2) := pb_cmp op_lt cI_ok ha hb (nomark _)
theorem pb_le (ha : PX X y a m1) (hb : PX X y b m2) : PB X y (.Compare a [.LtE] [b] pos) (mCmp cLe m1 m2) := pb_cmp op_le cI_ok ha hb (nomark _)
theorem pb_gt (ha : PX X y a m1) (hb : PX X y b m2) : PB X y (.Compare a [.Gt] [b] pos) (mCmp cGt m1 m2) := pb_cmp op_gt cI_ok ha hb (nomark _)
theorem pb_ge (ha : PX X y a m1) (hb : PX X y b m2) : PB X y (.Compare a [.GtE] [b] pos) (mCmp cGe m1 m2) := pb_cmp op_ge cI_ok ha hb (nomark _)
theorem pb_eq (hr : Room kk X.A) (ha : PX X y a m1) (hb : PX X y b m2) : PB X y (.Compare a [.Eq] [b] pos) (mCmp cEq m1 m2) := pb_cmp (op_eqD hr.units) eq_ok ha hb (nomark _)
theorem pb_ne (hr : Room kk X.A) (ha : PX X y a m1) (hb : PX X y b m2) : PB X y (.Compare a [.NotEq] [b] pos) (mCmp cNe m1 m2) := pb_cmp (op_neD hr.units) ne_ok ha hb (nomark _)
theorem pb_is (ha : PX X y a m1) (hb : PX X y b m2) : PB X y (.Compare a [.Is] [b] pos) (mCmp cIs m1 m2) := pb_cmp op_isN is_ok ha hb (nomark _)
theorem pb_isnot (ha : PX X y a m1) (hb : PX X y b m2) : PB X y (.Compare a [.IsNot] [b] pos) (mCmp cIsNot m1 m2) := pb_cmp op_notN isnot_ok ha hb (nomark _)
theorem pb_in (hr : Room kk X.A) (ha : PX X y a m1) (hb : PX X y b m2) (hm : behindInMarks .In b = false := by rfl) : PB X y (.Compare a [.In] [b] pos) (mCmp cIn m1 m2) := pb_cmp (opR_or op_in_seq (op_inD (hu65 hr))) in_ok ha hb hm
theorem pb_notin (hr : Room kk X.A) (ha : PX X y a m1) (hb : PX X y b m2) (hm : behindInMarks .NotIn b = false := by rfl) : PB X y (.Compare a [.NotIn] [b] pos) (mCmp cNotIn m1 m2) := pb_cmp (opR_or op_notIn_seq (op_notInD (hu65 hr))) notin_ok ha hb hm
/-- a <= b <= c -/
def mChain (f g : D → D → Option Bool) (m1 m2 m3 : M Tk) : M Tk := mBind m1 fun t1 => mBind m2 fun t2 env => match look t1.settle env, look t2 env with
  | some a, some b => match f a b with
    | some true => mBind m3 (fun t3 e3 => match look t2.settle e3, look t3 e3 with
      | some b', some c => mOf ((g b' c).map fun k => .val (.bl k)) e3
      | _, _ => .bad) env
    | some false => .ok (.val (.bl false)) env
    | none => .bad
  | _, _ => .bad
/-! built-ins by their names -/
theorem px_int1 (hm : X.mg "int" = none) (ha : PAs X y [e] ma) (hg : Gl X "int" := by rfl) (he : starEach [e] X.env = (false, eval e X.env) :: starEach [] X.env := by rfl) : PX X y (.Call (.Name "int" p) [e] [] pos) (mCall (fn1 dInt) ma) := px_typ call_int1 int_ok hg hm (by decide +kernel) ha (he := he) (hpl := by rfl)
theorem px_abs (hm : X.mg "abs" = none) (ha : PAs X y [e] ma) (hg : Gl X "abs" := by rfl) (he : starEach [e] X.env = (false, eval e X.env) :: starEach [] X.env := by rfl) : PX X y (.Call (.Name "abs" p) [e] [] pos) (mCall (fn1 dAbs) ma) := px_blt call_abs abs_ok hg hm (by decide +kernel) ha (he := he) (hpl := by rfl)
theorem px_sum (hc : X.calm = true) (hm : X.mg "sum" = none) (ha : PAs X y [e] ma) (hg : Gl X "sum" := by rfl) (he : starEach [e] X.env = (false, eval e X.env) :: starEach [] X.env := by rfl) : PX X y (.Call (.Name "sum" p) [e] [] pos) (mCall (fn1 dSum) ma) := px_blt (cr_sum hc) sum_ok hg hm (by decide +kernel) ha (he := he) (hpl := by rfl)
theorem px_any (hc : X.calm = true) (hm : X.mg "any" = none) (ha : PAs X y [e] ma) (hg : Gl X "any" := by rfl) (he : starEach [e] X.env = (false, eval e X.env) :: starEach [] X.env := by rfl) : PX X y (.Call (.Name "any" p) [e] [] pos) (mCall (fn1 dAny) ma) := px_blt (cr_any hc) any_ok hg hm (by decide +kernel) ha (he := he) (hpl := by rfl)
theorem px_all (hc : X.calm = true) (hm : X.mg "all" = none) (ha : PAs X y [e] ma) (hg : Gl X "all" := by rfl) (he : starEach [e] X.env = (false, eval e X.env) :: starEach [] X.env := by rfl) : PX X y (.Call (.Name "all" p) [e] [] pos) (mCall (fn1 dAll) ma) := px_blt (cr_all hc) all_ok hg hm (by decide +kernel) ha (he := he) (hpl := by rfl)
theorem px_tuple (hm : X.mg "tuple" = none) (ha : PAs X y [e] ma) (hg : Gl X "tuple" := by rfl) (he : starEach [e] X.env = (false, eval e X.env) :: starEach [] X.env := by rfl) : PX X y (.Call (.Name "tuple" p) [e] [] pos) (mCall (fn1 dTuple) ma) := px_typ call_tuple_of tuple_ok hg hm (by decide +kernel) ha (he := he) (hpl := by rfl)
theorem px_list (hm : X.mg "list" = none) (ha : PAs X y [e] ma) (hg : Gl X "list" := by rfl) (he : starEach [e] X.env = (false, eval e X.env) :: starEach [] X.env := by rfl) : PX X y (.Call (.Name "list" p) [e] [] pos) (mCall (fn1 dList) ma) := px_typ call_list_of list_ok hg hm (by decide +kernel) ha (he := he) (hpl := by rfl)
end
section
variable {P : Program} {w : World} {K : PySem.W.Frag} {mg : Str → Option Value} {base : Heap} {N : List Str} {qual : Str} {scope : Scope} {f : Addr} {cdv : Value} {A : Around} {outer : List PySem.Env} {s : Shared} {H : Hp} {E : XK}
theorem tkF : Takes (cxOf (L2.CX P w) P w K mg base N qual scope f cdv A outer s H E) (fun cls d _ H => E cls d H) := takes_of rfl rfl rfl rfl
theorem hpF : PassesOwn (model P w) (cxOf (L2.CX P w) P w K mg base N qual scope f cdv A outer s H E).A (cxOf (L2.CX P w) P w K mg base N qual scope f cdv A outer s H E).env (cxOf (L2.CX P w) P w K mg base N qual scope f cdv A outer s H E).xe := passes_of (X := cxOf (L2.CX P w) P w K mg base N qual scope f cdv A outer s H E) rfl
end
end VM

set_option Elab.async false
set_option linter.all false
set_option maxRecDepth 100000
set_option maxHeartbeats 1000000
/-! VM B: isinstance -/
namespace VM
open PySem PySem.Spec PyProof.Rows L2
def tyNames : List String := ["NoneType", "bool", "int", "str", "list", "tuple", "dict"]
/-- a built-in type under a built-in class -/
def tyTab (a b : String) : Option Bool := if tyNames.contains a && tyNames.contains b && b != "NoneType" then some (a == b || (a == "bool" && b == "int")) else none
theorem tyTab_all : (tyNames.all fun a => tyNames.all fun b => b == "NoneType" || kitB a b == some (a == b || (a == "bool" && b == "int"))) = true := by decide +kernel
theorem tyTab_ok {a b : String} {r : Bool} (h : tyTab a b = some r) : kitB a b = some r := by
  unfold tyTab at h
  split at h
  · rename_i hc
    cases h
    rw [Bool.and_eq_true, Bool.and_eq_true] at hc
    obtain ⟨⟨h1, h2⟩, h3⟩ := hc
    have q := List.all_eq_true.mp tyTab_all a (by simpa using h1)
    have q := List.all_eq_true.mp q b (by simpa using h2)
    rw [Bool.or_eq_true] at q
    rcases q with q | q
    · simp at q; subst q; simp at h3
    · exact eq_of_beq q
  · cases h
/-- what isinstance asks of an own class -/
structure IF (K : PySem.W.Frag) (C : Addr) : Prop where
  cl : Cls K C
  ha : PySem.W.findIn K (.ref C) "__class__" = some (some (.builtin "object.__class__"))
  hn : PySem.W.specialIn K (.builtin "object.__class__") "__get__" = some (some (.builtin "getset_descriptor.__get__"))
  tk : PySem.W.takesIn K (.builtin "object.__class__") = some true
  hm : PySem.W.mroIn K C (.type "object") = some true
def valT (cm : Nat → Addr) : D → Option Value
  | .ty n => some (.type n)
  | .cl c => some (.ref (cm c))
  | _ => none
/-- which class is under which -/
structure Sub (K : PySem.W.Frag) (cm : Nat → Addr) (sub : D → D → Option Bool) (ic : List Nat) : Prop where
  ok : ∀ t c b tv cv, sub t c = some b → valT cm t = some tv → valT cm c = some cv → PySem.W.kitOne K tv cv = some b
  ic : ∀ c ∈ ic, IF K (cm c)
def sub0 : D → D → Option Bool
  | .ty a, .ty b => tyTab a b
  | _, _ => none
theorem sub0_ok {K : PySem.W.Frag} {cm : Nat → Addr} : Sub K cm sub0 [] := ⟨fun t c b tv cv h h1 h2 => by
  cases t <;> cases c <;> first
    | (cases h; done)
    | (cases h1; cases h2; exact kit_ty (tyTab_ok h)), fun c h => by cases h⟩
def tyD (ic : List Nat) : D → Option D
  | .non => some (.ty "NoneType")
  | .bl _ => some (.ty "bool")
  | .int _ => some (.ty "int")
  | .str _ => some (.ty "str")
  | .lst _ => some (.ty "list")
  | .tup _ => some (.ty "tuple")
  | .ins c _ _ => if ic.contains c = true then some (.cl c) else none
  | .dic _ _ => some (.ty "dict")
  | _ => none
def anyT (sub : D → D → Option Bool) (t : D) : List D → Option Bool
  | [] => some false
  | c :: cs => match sub t c with
    | some true => some true
    | some false => anyT sub t cs
    | none => none
def isT : D → Bool
  | .ty _ => true
  | .cl _ => true
  | _ => false
def dIsi (sub : D → D → Option Bool) (ic : List Nat) (x c : D) : Option Tk := match tyD ic x with
  | none => none
  | some t => match c with
    | .tup cs => if cs.all isT = true then (anyT sub t cs).map fun b => .val (.bl b) else none
    | c => if isT c = true then (sub t c).map fun b => .val (.bl b) else none
section
variable {X : Cx} {y : Y} {a b c e : Expr} {es : List Expr} {m m1 m2 : M Tk} {ma : M (List Tk)} {pos p p2 : Pos}
theorem ty_v {K : PySem.W.Frag} {cm : Nat → Addr} {ic : List Nat} (hic : ∀ c ∈ ic, IF K (cm c)) {Hk H : Hp} (e : Ex Hk H) {d t : D} {v : V} (h : Pk ⟨K, cm⟩ Hk H d v) (q : tyD ic d = some t) : ∃ tv, valT cm t = some tv ∧ TyX K H v tv := by
  cases d with
  | non => cases q; cases h.non; exact ⟨_, rfl, .base .non⟩
  | bl b => cases q; cases h.bl; exact ⟨_, rfl, .base (.bl b)⟩
  | int i => cases q; cases h.int; exact ⟨_, rfl, .base (.int i)⟩
  | str s => cases q; cases h.str; exact ⟨_, rfl, .base (.str s)⟩
  | lst xs => cases q; obtain ⟨a, vs, rfl, h1, _⟩ := h.lst e; exact ⟨_, rfl, .base (.lst h1)⟩
  | tup xs => cases q; obtain ⟨a, vs, rfl, h1, _⟩ := h.tup e; exact ⟨_, rfl, .base (.tup h1)⟩
  | dic ks xs => cases q; obtain ⟨a, vs, rfl, h1, _⟩ := h.dic e; exact ⟨_, rfl, .base (.dT h1)⟩
  | ins c ns xs =>
    dsimp only [tyD] at q
    split at q
    · rename_i hc
      cases q
      obtain ⟨a, dx, vs, rfl, h1, _⟩ := h.ins e
      have f := hic c (by simpa using hc)
      exact ⟨_, rfl, .base (.ins h1 f.cl f.ha f.hn f.tk f.hm)⟩
    · cases q
  | _ => cases q
theorem isT_v {K : PySem.W.Frag} {cm : Nat → Addr} {H : Hp} {d : D} {v : V} (f : isT d = true) (h : Rp ⟨K, cm⟩ H d v) : ∃ cv, valT cm d = some cv ∧ ClsV v cv := by
  cases d with
  | ty n => unfold Rp at h; subst h; exact ⟨_, rfl, .ty n⟩
  | cl c => unfold Rp at h; subst h; exact ⟨_, rfl, .own _⟩
  | _ => cases f
theorem any_v {K : PySem.W.Frag} {cm : Nat → Addr} {sub : D → D → Option Bool} {ic : List Nat} (S : Sub K cm sub ic) {H : Hp} {t : D} {tv : Value} (ht : valT cm t = some tv) : ∀ {cs : List D} {vs : List V} {r : Bool}, cs.all isT = true → RpL ⟨K, cm⟩ H cs vs → anyT sub t cs = some r → ∃ us, Paired ClsV vs us ∧ PySem.W.kitAny K tv us = some r
  | [], _, _, _, h, q => by unfold RpL at h; subst h; cases q; exact ⟨[], .nil, kitAny_nil⟩
  | c :: cs, _, r, f, h, q => by
    obtain ⟨v, vr, rfl, h1, h2⟩ := h.inv
    rw [List.all_cons, Bool.and_eq_true] at f
    obtain ⟨cv, hc, hv⟩ := isT_v f.1 h1
    unfold anyT at q
    cases z : sub t c with
    | none => rw [z] at q; cases q
    | some b =>
      rw [z] at q
      have k := S.ok t c b tv cv z ht hc
      cases b with
      | true =>
        cases q
        have ex : ∀ {cs : List D} {vr : List V}, cs.all isT = true → RpL ⟨K, cm⟩ H cs vr → ∃ us, Paired ClsV vr us := by
          intro cs
          induction cs with
          | nil => intro vr _ h; unfold RpL at h; subst h; exact ⟨[], .nil⟩
          | cons c cs ih =>
            intro vr f h
            obtain ⟨v, r, rfl, h1, h2⟩ := h.inv
            rw [List.all_cons, Bool.and_eq_true] at f
            obtain ⟨cv, _, hv⟩ := isT_v f.1 h1
            obtain ⟨us, hu⟩ := ih f.2 h2
            exact ⟨cv :: us, .cons hv hu⟩
        obtain ⟨us, hu⟩ := ex f.2 h2
        refine ⟨cv :: us, .cons hv hu, ?_⟩
        unfold PySem.W.kitAny
        rw [k]
      | false =>
        obtain ⟨us, hu, hk⟩ := any_v S ht f.2 h2 q
        exact ⟨cv :: us, .cons hv hu, kitAny_cons k (fun _ => hk) (fun z => by cases z)⟩
theorem isi_ok {sub : D → D → Option Bool} {ic : List Nat} (S : Sub X.K y.cm sub ic) : OpN X y (fn2 (dIsi sub ic)) (fun xs H Q => rIsi X.K xs H Q ∨ rIsiT X.K xs H Q) := op2N (by
  intro Hk H a b v w t Q e h pa pb q
  unfold dIsi at h
  cases z : tyD ic a with
  | none => rw [z] at h; cases h
  | some ta =>
    rw [z] at h
    obtain ⟨tv, h1, h2⟩ := ty_v S.ic e pa z
    have one : ∀ c : D, isT c = true → Pk (y.ct X) Hk H c w → ∀ r, sub ta c = some r → t = .val (.bl r) → rIsi X.K [v, w] H Q := fun c ic' pc r hr ht => by
      obtain ⟨cv, hc, hv⟩ := isT_v (K := X.K) (cm := y.cm) ic' (pc.all e)
      subst ht
      exact ⟨v, w, tv, cv, r, rfl, hv, h2, S.ok _ _ _ _ _ hr h1 hc, q _ _ (res_flat rp_bl e)⟩
    cases b with
    | tup cs =>
      dsimp only at h
      split at h
      · rename_i hc
        cases z2 : anyT sub ta cs with
        | none => rw [z2] at h; cases h
        | some r =>
          rw [z2] at h
          cases h
          obtain ⟨p, vs, rfl, g1, g2, _⟩ := pb.tup e
          obtain ⟨us, hu, hk⟩ := any_v S h1 hc g2 z2
          exact .inr ⟨v, p, vs, tv, us, r, rfl, g1, hu, h2, hk, q _ _ (res_flat rp_bl e)⟩
      · cases h
    | ty n =>
      have h : (sub ta (.ty n)).map (fun b => Tk.val (.bl b)) = some t := h
      cases z2 : sub ta (.ty n) with
      | none => rw [z2] at h; cases h
      | some r => rw [z2] at h; cases h; exact .inl (one (.ty n) rfl pb r z2 rfl)
    | cl n =>
      have h : (sub ta (.cl n)).map (fun b => Tk.val (.bl b)) = some t := h
      cases z2 : sub ta (.cl n) with
      | none => rw [z2] at h; cases h
      | some r => rw [z2] at h; cases h; exact .inl (one (.cl n) rfl pb r z2 rfl)
    | _ => exact absurd h (by simp [isT]))
theorem px_isi {sub : D → D → Option Bool} {ic : List Nat} (S : Sub X.K y.cm sub ic) (hm : X.mg "isinstance" = none) (ha : PAs X y [a, b] ma) (hg : Gl X "isinstance" := by rfl) (he : starEach [a, b] X.env = (false, eval a X.env) :: starEach [b] X.env := by rfl) (hpl : (backTo pos (starEach [b] X.env)).any (·.1) = false := by rfl) :
    PX X y (.Call (.Name "isinstance" p) [a, b] [] pos) (mCall (fn2 (dIsi sub ic)) ma) := px_blt (callR_or call_isi call_isiT) (isi_ok S) hg hm (by decide +kernel) ha (he := he) (hpl := hpl)
theorem px_ty {x : Str} {T : String} (hm : X.mg x = none) (hv : bootBuiltins x = some (.type T) := by decide +kernel) (hg : Gl X x := by rfl) (hn : x ≠ "__name__" := by decide) (hd : (x == ("__debug__" : Str)) = false := by decide) : PX X y (.Name x pos) (mC (.ty T)) :=
  px_c (pe_bltn hg hm hv (v := .ty T) rfl hn hd) fun _ => by unfold Rp; rfl
theorem px_cls {x : Str} {c : Nat} (hm : X.mg x = some (.ref (y.cm c))) (hg : Gl X x := by rfl) (hd : (x == ("__debug__" : Str)) = false := by decide) : PX X y (.Name x pos) (mC (.cl c)) :=
  px_c (pe_glob hg hm (v := .ref (y.cm c)) rfl hd) fun _ => by unfold Rp; rfl
end
end VM

set_option Elab.async false
set_option linter.all false
set_option maxRecDepth 100000
set_option maxHeartbeats 1000000
/-! VM C: the end of a law -/
namespace VM
open PySem PySem.Spec PyProof.Rows L2
theorem cx_false {P : Program} {w : World} {outer : List PySem.Env} {H : Hp} {s : Shared} {u : Value} {s' : Shared} (h : L2.CX P w outer H s (fun _ _ _ => False) u s') : False := by
  obtain ⟨_, _, _, _, _, _, _, _, _, _, _, _, z⟩ := h
  exact z.elim
theorem law_sp {K : PySem.W.Frag} {cm : Nat → Addr} {F : List D → Rf} {H : Hp} {a : Addr} {ns : List Int} (hS : SqL K H a (ns.map V.int)) (h : ∃ p, F [.scr ns] = .ok false (.bl true) p) : spF ⟨K, cm⟩ 1 F [.ref a] H (fun v _ => v = .bl true) fun _ _ _ => False := by
  obtain ⟨p, h⟩ := h
  refine ⟨rfl, [.scr ns], H, Ex.refl H, RpL.cons (by unfold Rp; exact ⟨a, rfl, hS⟩) RpL.nil, ?_⟩
  rw [h]
  intro v Hk' H' _ _ _ b
  have b : Rp ⟨K, cm⟩ Hk' (.bl true) v := b
  unfold Rp at b
  exact b
end VM

set_option Elab.async false
set_option linter.all false
set_option maxRecDepth 100000
set_option maxHeartbeats 1000000
/-! VM D: reckoning with meanings: each combinator at an environment; loops -/
namespace VM
open PySem PySem.Spec PyProof.Rows L2
def bindR {α β : Type} (r : Rs α) (k : α → Env → Rs β) : Rs β := match r with
  | .ok a e => k a e
  | .ex c ns ds e => .ex c ns ds e
  | .bad => .bad
section
variable {α β : Type} {m m1 m2 m3 : M Tk} {ma : M (List Tk)} {n n1 n2 : M Bool} {f1 f2 : M Fl} {env : Env}
theorem bindR_ok {a : α} {e : Env} {k : α → Env → Rs β} : bindR (.ok a e) k = k a e := (rfl)
theorem bindR_ex {c : Nat} {ns : List Str} {ds : List D} {e : Env} {k : α → Env → Rs β} : bindR (.ex c ns ds e) k = .ex c ns ds e := (rfl)
theorem a_bind {m : M α} {f : α → M β} : mBind m f env = bindR (m env) f := (rfl)
theorem a_of_some {a : α} : mOf (some a) env = .ok a env := (rfl)
theorem a_var {k : Nat} : mVar k env = match env[k]? with
  | some .no => .bad
  | none => .bad
  | some _ => .ok (.slot k) env := (rfl)
theorem a_c {d : D} : mC d env = .ok (.val d) env := (rfl)
theorem a_bin {f : D → D → Option Tk} : mBin f m1 m2 env = bindR (m1 env) fun t1 e1 => bindR (m2 e1) fun t2 e2 => mLook2 f t1.settle t2 e2 := (rfl)
theorem a_un {f : D → Option Tk} : mUn f m env = bindR (m env) (mLook1 f) := (rfl)
theorem a_test : mTest m env = bindR (m env) mTru := (rfl)
theorem a_tru {t : Tk} : mTru t env = match look t env with
  | some d => mOf d.tru env
  | none => .bad := (rfl)
theorem a_cmp {f : D → D → Option Bool} : mCmp f m1 m2 env = bindR (m1 env) fun t1 e1 => bindR (m2 e1) fun t2 env => match look t1.settle env, look t2 env with
  | some a, some b => mOf (f a b) env
  | _, _ => .bad := (rfl)
theorem a_and : mAnd n1 n2 env = bindR (n1 env) fun b e => if b = true then n2 e else .ok false e := by
  unfold mAnd mBind bindR; cases n1 env with
  | ok b e => cases b <;> rfl
  | _ => rfl
theorem a_or : mOr n1 n2 env = bindR (n1 env) fun b e => if b = true then .ok true e else n2 e := by
  unfold mOr mBind bindR; cases n1 env with
  | ok b e => cases b <;> rfl
  | _ => rfl
theorem a_not : mNot n env = bindR (n env) fun b e => .ok (!b) e := (rfl)
theorem a_if : mIf n m1 m2 env = bindR (n env) fun b e => if b = true then m1 e else m2 e := by
  unfold mIf mBind bindR; cases n env with
  | ok b e => cases b <;> rfl
  | _ => rfl
theorem a_andV : mAndV m1 m2 env = bindR (m1 env) fun t e => bindR (mBl t e) fun b e => if b = true then m2 e else .ok (.val (.bl false)) e := by
  unfold mAndV mBind bindR; cases m1 env with
  | ok t e =>
    dsimp only
    cases mBl t e with
    | ok b e => cases b <;> rfl
    | _ => rfl
  | _ => rfl
theorem a_orV : mOrV m1 m2 env = bindR (m1 env) fun t e => bindR (mBl t e) fun b e => if b = true then .ok (.val (.bl true)) e else m2 e := by
  unfold mOrV mBind bindR; cases m1 env with
  | ok t e =>
    dsimp only
    cases mBl t e with
    | ok b e => cases b <;> rfl
    | _ => rfl
  | _ => rfl
theorem a_notV : mNotV m env = bindR (m env) fun t e => bindR (mTru t e) fun b e => .ok (.val (.bl (!b))) e := (rfl)
theorem a_bl {t : Tk} : mBl t env = match look t env with
  | some (.bl b) => .ok b env
  | _ => .bad := (rfl)
theorem a_nil : mNil env = .ok [] env := (rfl)
theorem a_cons : mCons m ma env = bindR (m env) fun t e => bindR (ma e) fun ts e => .ok (t.settle :: ts) e := (rfl)
theorem a_tup : mTup ma env = bindR (ma env) fun ts e => bindR (forceAll ts e) fun ds e => if ds.length ≤ 1000 then .ok (.val (.tup ds)) e else .bad := by
  unfold mTup mBind bindR; cases ma env with
  | ok ts e =>
    dsimp only
    cases forceAll ts e with
    | ok ds e => dsimp only; split <;> rfl
    | _ => rfl
  | _ => rfl
theorem a_lst : mLst ma env = bindR (ma env) fun ts e => bindR (forceAll ts e) fun ds e => if ds.length ≤ 1000 then .ok (.new (.lst ds)) e else .bad := by
  unfold mLst mBind bindR; cases ma env with
  | ok ts e =>
    dsimp only
    cases forceAll ts e with
    | ok ds e => dsimp only; split <;> rfl
    | _ => rfl
  | _ => rfl
theorem a_call {f : List D → Option Tk} : mCall f ma env = bindR (ma env) fun ts env => match lookAll ts env with
  | some ds => mOf (f ds) env
  | none => .bad := (rfl)
theorem a_callF {F : List D → Rf} : mCallF F ma env = bindR (ma env) fun ts env => match lookAll ts env with
  | none => .bad
  | some ds => match F ds with
    | .ok nw d _ => if apart nw d = true then .ok (tkOf nw d) env else match forceAll ts env with
      | .ok _ e => .ok (tkOf nw d) e
      | _ => .bad
    | .ex c ns xs _ => if xs.all D.flat = true then .ex c ns xs env else match forceAll ts env with
      | .ok _ e => .ex c ns xs e
      | _ => .bad
    | .bad => .bad := (rfl)
theorem a_callIO {F : List D → Rf} {k : Nat} : mCallIO F k ma env = match owD k env with
  | none => .bad
  | some _ => bindR (ma env) fun ts e1 => match forceAll ts e1 with
    | .ok ds e2 => match owD k e2 with
      | none => .bad
      | some d0 => match F (d0 :: ds) with
        | .ok nw d p => .ok (tkOf nw d) (e2.set k (.ow p))
        | .ex c ns xs p => .ex c ns xs (e2.set k (.ow p))
        | .bad => .bad
    | _ => .bad := (rfl)
theorem a_seq : mSeq f1 f2 env = match f1 env with
  | .ok .nx e => f2 e
  | r => r := (rfl)
theorem a_next : mNext env = .ok .nx env := (rfl)
theorem a_ret : mRet m env = bindR (m env) fun t e => .ok (.rt t) e := (rfl)
theorem a_retN : mRetN env = .ok (.rt (.val .non)) env := (rfl)
theorem a_drop : mDrop m env = bindR (m env) fun _ e => .ok .nx e := (rfl)
theorem a_break : mBreak env = .ok .bk env := (rfl)
theorem a_cont : mCont env = .ok .ct env := (rfl)
theorem a_ifS : mIfS n f1 f2 env = bindR (n env) fun b e => if b = true then f1 e else f2 e := by
  unfold mIfS mBind bindR; cases n env with
  | ok b e => cases b <;> rfl
  | _ => rfl
theorem a_asg {i : Nat} : mAsg i m env = bindR (m env) (store i) := (rfl)
theorem a_asgG {g : D → Env → Option Env} : mAsgG g m env = bindR (m env) fun t env => match force t env with
  | .ok d e => match g d e with
    | some e2 => .ok .nx e2
    | none => .bad
  | _ => .bad := (rfl)
theorem a_app {k : Nat} : mApp k m env = match owL k env with
  | none => .bad
  | some _ => bindR (m env) fun t env => match force t env with
    | .ok d e => match owL k e with
      | some xs => if xs.length < lim then .ok (.val .non) (e.set k (.ow (.lst (xs ++ [d])))) else .bad
      | none => .bad
    | _ => .bad := (rfl)
theorem a_setI {k : Nat} {mi : M Tk} : mSetI k mi m env = bindR (m env) fun t env => match force t env with
  | .ok d e1 => match owL k e1 with
    | none => .bad
    | some _ => bindR (mi e1) fun ti e2 => match look ti e2, owL k e2 with
      | some (.int i), some xs => match ixN xs.length i with
        | some j => .ok .nx (e2.set k (.ow (.lst (xs.set j d))))
        | none => .bad
      | _, _ => .bad
  | _ => .bad := (rfl)
theorem a_iter : mIter m env = bindR (m env) fun t env => match force t env with
  | .ok (.lst xs) e => .ok xs e
  | .ok (.tup xs) e => .ok xs e
  | .ok (.scr ns) e => .ok (ns.map .int) e
  | _ => .bad := (rfl)
theorem a_rng : mRng ma env = bindR (ma env) fun ts env => match lookAll ts env with
  | some [.int n] => if okR n = true then .ok (rngD 0 n.toNat) env else .bad
  | some [.int lo, .int n] => if okR lo = true ∧ okR n = true then .ok (rngD lo (n - lo).toNat) env else .bad
  | _ => .bad := (rfl)
theorem a_for {mi : M (List D)} {g : D → Env → Option Env} {junk : List Nat} {body : M Fl} : mFor mi g junk body env = bindR (mi env) (mLoop g junk body) := (rfl)
theorem a_slice {ml mh : M (Option Int)} : mSlice m ml mh env = bindR (m env) fun t e => bindR (ml e) fun lo e => bindR (mh e) fun hi env => match look t.settle env with
  | some d => mOf (dSl d lo hi) env
  | none => .bad := (rfl)
theorem a_part0 : mPart none env = .ok none env := (rfl)
theorem a_part1 : mPart (some m) env = bindR (m env) fun t env => match look t env with
  | some (.int i) => .ok (some i) env
  | _ => .bad := (rfl)
theorem a_lc {mi : M (List D)} {g : D → Env → Option Env} {own : List Nat} {test : M Bool} {elt : M Tk} : mLc mi g own test elt env = bindR (mi env) fun ds e1 => if noOw own e1 = true then match mLcLoop g own test elt ds [] (wipeE own e1) with
    | .ok out e2 => .ok (.new (.lst out)) (restore own e1 e2)
    | _ => .bad
  else .bad := (rfl)
theorem a_yes : mYes env = .ok true env := (rfl)
end
/-! ### loops -/
/-- one turn -/
def turn (g : D → Env → Option Env) (junk : List Nat) (body : M Fl) (d : D) (env : Env) : Rs Fl := match g d env with
  | none => .bad
  | some e1 => match body e1 with
    | .ok .nx e2 => .ok .nx (forget junk e2)
    | .ok .ct e2 => .ok .nx (forget junk e2)
    | .ok .bk e2 => .ok .bk (forget junk e2)
    | r => r
section
variable {g : D → Env → Option Env} {junk : List Nat} {body : M Fl}
theorem loop_nil {env : Env} : mLoop g junk body [] env = .ok .nx env := rfl
theorem loop_cons {d : D} {ds : List D} {env : Env} : mLoop g junk body (d :: ds) env = match turn g junk body d env with
    | .ok .nx e => mLoop g junk body ds e
    | .ok .bk e => .ok .nx e
    | r => r := by
  unfold turn
  show (match g d env with | none => Rs.bad | some e1 => _) = _
  cases g d env with
  | none => rfl
  | some e1 =>
    dsimp only
    cases body e1 with
    | ok fl e2 => cases fl <;> rfl
    | _ => rfl
/-- every turn goes on: by a word of the turn -/
theorem loop_inv (P : Nat → Env → Prop) : ∀ (ds : List D) (k : Nat) {env : Env}, (∀ i d e, ds[i]? = some d → P (k + i) e → ∃ e', turn g junk body d e = .ok .nx e' ∧ P (k + i + 1) e') → P k env → ∃ e', mLoop g junk body ds env = .ok .nx e' ∧ P (k + ds.length) e'
  | [], k, env, _, p => ⟨env, rfl, p⟩
  | d :: ds, k, env, h, p => by
    obtain ⟨e1, t1, p1⟩ := h 0 d env rfl p
    obtain ⟨e2, t2, p2⟩ := loop_inv P ds (k + 1) (env := e1) (fun i d e hi hp => by
      have := h (i + 1) d e (by simpa using hi) (by rw [show k + (i + 1) = k + 1 + i by omega]; exact hp)
      rw [show k + (i + 1) = k + 1 + i by omega] at this
      exact this) p1
    refine ⟨e2, ?_, ?_⟩
    · rw [loop_cons, t1]; exact t2
    · rw [List.length_cons, show k + (ds.length + 1) = k + 1 + ds.length by omega]; exact p2
/-- every turn goes on: the environment a function of the turn -/
theorem loop_fn (E : Nat → Env) (ds : List D) (h : ∀ i d, ds[i]? = some d → turn g junk body d (E i) = .ok .nx (E (i + 1))) : mLoop g junk body ds (E 0) = .ok .nx (E ds.length) := by
  obtain ⟨e', h1, h2⟩ := loop_inv (g := g) (junk := junk) (body := body) (fun i e => e = E i) ds 0 (env := E 0) (fun i d e hi hp => ⟨E (i + 1), by rw [hp, Nat.zero_add]; exact h i d hi, by rw [Nat.zero_add]⟩) rfl
  rw [h1, h2, Nat.zero_add]
theorem rng_len (lo : Int) (n : Nat) : (rngD lo n).length = n := by unfold rngD; simp
theorem rng_get {lo : Int} {n i : Nat} {d : D} (h : (rngD lo n)[i]? = some d) : i < n ∧ d = .int (lo + (i : Int)) := by
  unfold rngD at h
  rw [List.getElem?_map] at h
  cases z : (List.range n)[i]? with
  | none => rw [z] at h; cases h
  | some j =>
    rw [z] at h
    cases h
    obtain ⟨hl, hj⟩ := List.getElem?_eq_some_iff.mp z
    rw [List.getElem_range] at hj
    subst hj
    exact ⟨by simpa using hl, rfl⟩
theorem loop_rng (E : Nat → Env) (lo : Int) (n : Nat) (h : ∀ i, i < n → turn g junk body (.int (lo + (i : Int))) (E i) = .ok .nx (E (i + 1))) : mLoop g junk body (rngD lo n) (E 0) = .ok .nx (E n) := by
  have := loop_fn (g := g) (junk := junk) (body := body) E (rngD lo n) fun i d hi => by
    obtain ⟨h1, rfl⟩ := rng_get hi
    exact h i h1
  rw [rng_len] at this
  exact this
/-- a comprehension over a list: each item gives one -/
theorem lc_fn {own : List Nat} {test : M Bool} {elt : M Tk} (E : Nat → Env) (out : Nat → D) : ∀ (ds : List D) (k : Nat) (acc : List D), acc.length + ds.length ≤ lim → (∀ i d, ds[i]? = some d → ∃ e1 e2 t e3 e4, g d (E (k + i)) = some e1 ∧ test e1 = .ok true e2 ∧ elt e2 = .ok t e3 ∧ force t e3 = .ok (out (k + i)) e4 ∧ wipeE own e4 = E (k + i + 1)) →
    mLcLoop g own test elt ds acc (E k) = .ok (acc ++ (List.range ds.length).map fun i => out (k + i)) (E (k + ds.length))
  | [], k, acc, _, _ => by show Rs.ok acc (E k) = _; simp
  | d :: ds, k, acc, hl, h => by
    obtain ⟨e1, e2, t, e3, e4, h1, h2, h3, h4, h5⟩ := h 0 d rfl
    rw [List.length_cons] at hl
    unfold mLcLoop
    rw [Nat.add_zero] at h1 h4 h5
    rw [h1]
    dsimp only
    rw [h2]
    dsimp only
    rw [h3]
    dsimp only
    rw [h4]
    dsimp only
    rw [if_pos (by omega), h5]
    have ih := lc_fn (own := own) (test := test) (elt := elt) E out ds (k + 1) (acc ++ [out k]) (by simp; omega) (fun i d hi => by
      have := h (i + 1) d (by simpa using hi)
      rw [show k + (i + 1) = k + 1 + i by omega] at this
      exact this)
    rw [ih, List.length_cons, List.range_succ_eq_map]
    simp [Function.comp_def, Nat.add_assoc, Nat.add_comm 1]
end
end VM

set_option Elab.async false
set_option linter.all false
set_option maxRecDepth 100000
set_option maxHeartbeats 1000000
/-! VM E: comparisons of plain data; sizes; the law's drawing hand -/
namespace VM
open PySem PySem.Spec PyProof.Rows L2
theorem pl_int {n : Nat} {i : Int} : D.pl n (.int i) = true := by cases n <;> rfl
theorem pl_bl {n : Nat} {i : Bool} : D.pl n (.bl i) = true := by cases n <;> rfl
theorem pl_non {n : Nat} : D.pl n .non = true := by cases n <;> rfl
theorem cEq_int {a b : Int} : cEq (.int a) (.int b) = some (decide (a = b)) := by
  unfold cEq
  rw [pl_int, pl_int, if_pos ⟨rfl, rfl⟩]
  show some (PyData.eqv (.int a) (.int b)) = _
  rw [PyData.eqv, Bool.beq_eq_decide_eq]
theorem cNe_int {a b : Int} : cNe (.int a) (.int b) = some (!decide (a = b)) := by
  unfold cNe
  rw [pl_int, pl_int, if_pos ⟨rfl, rfl⟩]
  show some (!PyData.eqv (.int a) (.int b)) = _
  rw [PyData.eqv, Bool.beq_eq_decide_eq]
theorem log2_le {n k : Nat} (h : n < 2 ^ (k + 1)) : n.log2 ≤ k := by
  by_cases z : n = 0
  · subst z; simp
  · have := (Nat.log2_lt z).mpr h
    omega
theorem natAbs_powI (b : Int) : ∀ n : Nat, (b ^ n).natAbs = b.natAbs ^ n
  | 0 => by simp
  | n + 1 => by rw [Int.pow_succ, Int.natAbs_mul, natAbs_powI b n, Nat.pow_succ]
theorem mulOk_of {i j : Int} (h : i.natAbs.log2 + j.natAbs.log2 < 1000000) : mulOk i j = true := decide_eq_true h
theorem mulOk_le {i j : Int} {a b : Nat} (hi : i.natAbs < 2 ^ (a + 1)) (hj : j.natAbs < 2 ^ (b + 1)) (h : a + b < 1000000) : mulOk i j = true := mulOk_of (by
  have := log2_le hi
  have := log2_le hj
  omega)
theorem divOk_of {j : Int} {b : Nat} (h0 : 0 < j) (hj : j.natAbs < 2 ^ (b + 1)) (h : b < 9000) : divOk j = true := by
  unfold divOk
  rw [decide_eq_true h0, decide_eq_true (Nat.lt_of_le_of_lt (log2_le hj) h)]
  rfl
theorem okR_of {i : Int} (h : -(2 ^ 62) ≤ i ∧ i < 2 ^ 62) : okR i = true := decide_eq_true h
theorem atI_0 {α : Type} {x : α} {xs : List α} : atI (x :: xs) 0 = some x := atI_nat (j := 0) rfl
theorem atI_1 {α : Type} {x y : α} {xs : List α} : atI (x :: y :: xs) 1 = some y := atI_nat (j := 1) rfl
theorem atI_2 {α : Type} {x y z : α} {xs : List α} : atI (x :: y :: z :: xs) 2 = some z := atI_nat (j := 2) rfl
theorem atI_3 {α : Type} {x y z u : α} {xs : List α} : atI (x :: y :: z :: u :: xs) 3 = some u := atI_nat (j := 3) rfl
theorem ixN_of {n j : Nat} (h : j < n) : ixN n (j : Int) = some j := by
  unfold ixN
  rw [if_pos (by omega), if_pos (by omega)]
  simp
theorem ixN_1 {n : Nat} (h : 1 < n) : ixN n 1 = some 1 := ixN_of h
theorem ixN_2 {n : Nat} (h : 2 < n) : ixN n 2 = some 2 := ixN_of h
theorem ixN_3 {n : Nat} (h : 3 < n) : ixN n 3 = some 3 := ixN_of h
/-! one step at a time, at written arguments -/
section
variable {env : Env} {d d' : D} {i j : Int} {k n : Nat} {b : Bool} {xs ys ds : List D} {t t1 t2 : Tk} {ts : List Tk}
theorem l_val : look (.val d) env = some d := (rfl)
theorem l_new : look (.new d) env = some d := (rfl)
theorem l_slot : look (.slot k) env = match env[k]? with
  | some (.sh d) => some d
  | some (.ow d) => some d
  | _ => none := (rfl)
theorem f_val : force (.val d) env = .ok d env := (rfl)
theorem f_new : force (.new d) env = .ok d env := (rfl)
theorem f_slot : force (.slot k) env = match env[k]? with
  | some (.sh d) => .ok d env
  | some (.ow d) => .ok d (env.set k (.sh d))
  | _ => .bad := (rfl)
theorem t_val : (Tk.val d).settle = .val d := (rfl)
theorem t_new : (Tk.new d).settle = .val d := (rfl)
theorem t_slot : (Tk.slot k).settle = .slot k := (rfl)
theorem s_val : store k (.val d) env = .ok .nx (env.set k (.sh d)) := (rfl)
theorem s_new : store k (.new d) env = .ok .nx (env.set k (.ow d)) := (rfl)
theorem s_slot {m : Nat} : store k (.slot m) env = match force (.slot m) env with
  | .ok d e => .ok .nx (e.set k (.sh d))
  | _ => .bad := (rfl)
theorem a_look2 {f : D → D → Option Tk} : mLook2 f t1 t2 env = match look t1 env, look t2 env with
  | some a, some b => mOf (f a b) env
  | _, _ => .bad := (rfl)
theorem a_look1 {f : D → Option Tk} : mLook1 f t env = match look t env with
  | some a => mOf (f a) env
  | none => .bad := (rfl)
theorem a_fa0 : forceAll [] env = .ok [] env := (rfl)
theorem a_fa1 : forceAll (t :: ts) env = match force t env with
    | .ok d e1 => match forceAll ts e1 with
      | .ok ds e2 => .ok (d :: ds) e2
      | _ => .bad
    | _ => .bad := (rfl)
theorem a_la0 : lookAll [] env = some [] := (rfl)
theorem a_la1 : lookAll (t :: ts) env = match look t env, lookAll ts env with
    | some d, some ds => some (d :: ds)
    | _, _ => none := (rfl)
theorem a_fn1 {f : D → Option Tk} : fn1 f [d] = f d := (rfl)
theorem a_fn2 {f : D → D → Option Tk} : fn2 f [d, d'] = f d d' := (rfl)
theorem a_gN : gN k d env = some (env.set k (.sh d)) := (rfl)
theorem a_gs0 : gs0 [] env = some env := (rfl)
theorem a_gs1 {g : D → Env → Option Env} {gs : List D → Env → Option Env} : gs1 g gs (d :: ds) env = match g d env with
  | some e => gs ds e
  | none => none := (rfl)
theorem a_gT {gs : List D → Env → Option Env} : gT n gs (.tup ds) env = if ds.length = n then gs ds env else none := (rfl)
theorem a_turn {g : D → Env → Option Env} {junk : List Nat} {body : M Fl} : turn g junk body d env = match g d env with
  | none => .bad
  | some e1 => match body e1 with
    | .ok .nx e2 => .ok .nx (forget junk e2)
    | .ok .ct e2 => .ok .nx (forget junk e2)
    | .ok .bk e2 => .ok .bk (forget junk e2)
    | r => r := (rfl)
theorem a_fg0 : forget [] env = env := (rfl)
theorem a_fg1 {l : List Nat} : forget (k :: l) env = forget l (env.set k .no) := (rfl)
theorem a_wp0 : wipeE [] env = env := (rfl)
theorem a_wp1 {l : List Nat} : wipeE (k :: l) env = (wipeE l env).set k .no := (rfl)
theorem a_rs0 {e : Env} : restore [] e env = env := (rfl)
theorem a_rs1 {l : List Nat} {e : Env} : restore (k :: l) e env = restore l e (env.set k (e.getD k .no)) := (rfl)
theorem a_mkF {m : M Fl} : mkF n m ds = fin (m (entry n ds)) := (rfl)
theorem a_mkIO {m : M Fl} : mkIO n m (d :: ds) = finIO (m (entryIO n d ds)) := (rfl)
theorem a_owL : owL k env = match env[k]? with
  | some (.ow (.lst xs)) => some xs
  | _ => none := (rfl)
theorem a_owD : owD k env = match env[k]? with
  | some (.ow d) => some d
  | _ => none := (rfl)
theorem a_tkT : tkOf true d = .new d := (rfl)
theorem a_tkF : tkOf false d = .val d := (rfl)
theorem a_apf : apart b (.int i) = true := (rfl)
theorem a_apb {c : Bool} : apart b (.bl c) = true := (rfl)
theorem a_apn : apart b .non = true := (rfl)
theorem a_aps {s : Str} : apart b (.str s) = true := (rfl)
theorem e_addI : dAdd (.int i) (.int j) = some (.val (.int (i + j))) := (rfl)
theorem e_addL (h : xs.length + ys.length ≤ sizeLine) : dAdd (.lst xs) (.lst ys) = some (.new (.lst (xs ++ ys))) := if_pos h
theorem e_addT (h : xs.length + ys.length ≤ sizeLine) : dAdd (.tup xs) (.tup ys) = some (.val (.tup (xs ++ ys))) := if_pos h
theorem e_subI : dSub (.int i) (.int j) = some (.val (.int (i - j))) := (rfl)
theorem e_mulI (h : mulOk i j = true) : dMul (.int i) (.int j) = some (.val (.int (i * j))) := if_pos h
theorem e_divI (h : divOk j = true) : dDiv (.int i) (.int j) = some (.val (.int (i / j))) := if_pos h
theorem e_modI (h : 0 < j) : dMod (.int i) (.int j) = some (.val (.int (i % j))) := if_pos (decide_eq_true h)
theorem e_powI (h : 0 ≤ j ∧ j ≤ 1000000 ∧ i.natAbs < 2 ^ 64) : dPow (.int i) (.int j) = some (.val (.int (i ^ j.toNat))) := if_pos (decide_eq_true h)
theorem e_negI : dNeg (.int i) = some (.val (.int (-i))) := (rfl)
theorem e_lt : cLt (.int i) (.int j) = some (decide (i < j)) := (rfl)
theorem e_le : cLe (.int i) (.int j) = some (decide (i ≤ j)) := (rfl)
theorem e_gt : cGt (.int i) (.int j) = some (decide (j < i)) := (rfl)
theorem e_ge : cGe (.int i) (.int j) = some (decide (j ≤ i)) := (rfl)
theorem e_is : cIs d .non = some d.isN := (rfl)
theorem e_isnot : cIsNot d .non = some (!d.isN) := (rfl)
theorem a_lift {f : D → D → Option Bool} : lift f d d' = match f d d' with
  | some k => some (.val (.bl k))
  | none => none := (rfl)
theorem e_lenL : dLen (.lst xs) = some (.val (.int xs.length)) := (rfl)
theorem e_lenT : dLen (.tup xs) = some (.val (.int xs.length)) := (rfl)
theorem e_lenS {ns : List Int} : dLen (.scr ns) = some (.val (.int ns.length)) := (rfl)
theorem e_intI : dInt (.int i) = some (.val (.int i)) := (rfl)
theorem e_intB : dInt (.bl b) = some (.val (.int (if b then 1 else 0))) := (rfl)
theorem e_absI : dAbs (.int i) = some (.val (.int (if i < 0 then -i else i))) := (rfl)
theorem e_truB : D.tru (.bl b) = some b := (rfl)
theorem e_truI : D.tru (.int i) = some (i != 0) := (rfl)
theorem e_truN : D.tru .non = some false := (rfl)
theorem e_truL : D.tru (.lst xs) = some !xs.isEmpty := (rfl)
theorem e_truT : D.tru (.tup xs) = some !xs.isEmpty := (rfl)
theorem e_ixL : dIx (.lst xs) (.int i) = (atI xs i).map .val := (rfl)
theorem e_ixT : dIx (.tup xs) (.int i) = (atI xs i).map .val := (rfl)
theorem e_tupL : dTuple (.lst xs) = some (.val (.tup xs)) := (rfl)
theorem e_tupT : dTuple (.tup xs) = some (.val (.tup xs)) := (rfl)
theorem e_lstL : dList (.lst xs) = some (.new (.lst xs)) := (rfl)
theorem e_lstT : dList (.tup xs) = some (.new (.lst xs)) := (rfl)
theorem e_sum {ns : List Int} : dSum (.lst (ns.map .int)) = some (.val (.int ns.sum)) := by
  show (toInts (ns.map .int)).map _ = _
  rw [toInts_map]; rfl
end
end VM

set_option Elab.async false
set_option linter.all false
set_option maxRecDepth 100000
set_option maxHeartbeats 1000000
/-! VM F: exceptions: classes of the text under one base class, raise, try .. except .. (as ..) -/
namespace VM
open PySem PySem.Spec PyProof.Rows L2
/-! ### the family's base class, at R -/
structure RB (K : PySem.W.Frag) (R : Addr) : Prop where
  ga : PySem.W.specialIn K (.ref R) "__getattribute__" = some (some (.builtin "type.__getattribute__"))
  rd : PySem.W.readsIn K R (.type "type") = true
  at_ : PySem.W.findCls K (.ref R) (.type "type") "__init__" = some (.val (.builtin "ValueError.__init__"))
section
variable {X : Cx} {R : Addr} {x : Str} {e : Expr} {es : List Expr} {ta : TA} {p1 p2 pos : Pos}
/-- R.__init__(self, ..) -/
theorem pe_rkinit {pl : Sem Bool} (B : RB X.K R) (hm : X.mg x = some (.ref R)) (ha : PA X (e :: es) ta) (hg : Gl X x := by rfl) (hdb : (x == ("__debug__" : Str)) = false := by decide)
    (hc : eval (.Call (.Attribute (.Name x p1) "__init__" p2) (e :: es) [] pos) X.env = (do
      let ov ← eval (.Name x p1) X.env
      standAt p2.atName
      let (f, first) ← holding [ov] (getMethod ov "__init__" pl)
      callWith pos f first (backTo pos (starEach (e :: es) X.env)) (backToKw pos (keywordEach [] X.env))) := by rfl)
    (he : starEach (e :: es) X.env = (false, eval e X.env) :: starEach es X.env := by rfl) (hpl : (backTo pos (starEach es X.env)).any (·.1) = false := by rfl) :
    PE X (.Call (.Attribute (.Name x p1) "__init__" p2) (e :: es) [] pos) (tVeI X.K ta) := by
  refine ⟨fun pins s σ H Q I h => ?_⟩
  refine PySem.W.methodCall_KW (ld_glob I hg hm ?_ hdb) hc
  refine PySem.W.method_cls I.kIn B.ga (PySem.W.cls_value I.kIn B.rd B.at_ rfl ?_)
  show wpAny _ _ (callWith pos (Value.builtin "ValueError.__init__") [] (backTo pos (starEach (e :: es) X.env)) []) _ _ _
  refine PyProof.Rows.callWith_method1 (thn (ha.run pos pins _ σ H _ (I.tok _) h) fun us s1 ⟨vs, H1, I1, r1, a, C, ws, ev, hl, T, ea, q⟩ => ?_) he hpl
  subst ev
  cases r1 with
  | @cons _ u0 _ ur ra rw' =>
    obtain rfl : u0 = Value.ref a := ra
    have hlen : ur.length ≤ sizeLine := by
      rw [← Paired.length rw', sizeLine_eq]
      omega
    exact oinit_ok T I1 ea hlen fun s' J => ⟨.non, H1, J, rfl, q⟩
end
/-! ### what an __init__ leaves -/
def XEnd (a C : Addr) : List (Str × V) → Hp → Hp → Prop
  | [], H, H' => H' = H
  | f :: fs, H, H' => ∃ d, H d = none ∧ d ≠ a ∧ H' = upd (upd H d (exd d (f :: fs))) a (exo a C (some d))
def spX (C : Addr) (fs : List Str) : Sp := fun vs H Q _ => ∃ a ws, vs = V.ref a :: ws ∧ ws.length = fs.length ∧ H a = some (exo a C none) ∧ ∀ H', XEnd a C (fs.zip ws).reverse H H' → Q .non H'
theorem upd2 {H : Hp} {a d : Addr} {o1 o2 o3 o4 : HO} (h : d ≠ a) : upd (upd (upd (upd H d o1) a o2) d o3) a o4 = upd (upd H d o3) a o4 := by
  funext b
  by_cases ha : b = a
  · rw [ha, upd_same, upd_same]
  · rw [upd_ne ha, upd_ne ha]
    by_cases hd : b = d
    · rw [hd, upd_same, upd_same]
    · rw [upd_ne hd, upd_ne hd, upd_ne ha, upd_ne hd]
theorem upd1 {H : Hp} {a d : Addr} {o1 o2 o3 : HO} (h : d ≠ a) : upd (upd (upd H d o1) a o2) d o3 = upd (upd H d o3) a o2 := by
  funext b
  by_cases hd : b = d
  · rw [hd, upd_same, upd_ne h, upd_same]
  · rw [upd_ne hd]
    by_cases ha : b = a
    · rw [ha, upd_same, upd_same]
    · rw [upd_ne ha, upd_ne ha, upd_ne hd, upd_ne hd]
section
variable {P : Program} {w : World} {K : PySem.W.Frag} {mg : Str → Option Value} {base : Heap} {x qual m f1 f2 : Str} {st : Stmt} {f C : Addr} {fd : FuncData} {N ps : List Str} {k : Nat}
abbrev tI0 (K : PySem.W.Frag) (m : Str) : TS := tDrop (tVeI K (tCons (tVar 0) (tCons (tC (.str m)) tNil)))
theorem init0_ok (T : OexC K C) (F : Fun K x qual st f fd) (S : FnScope N ps (defScope st)) (hp : ps.length = 1) (hN : N.length = 1)
    (hb : ∀ (cdv : Value) (A : Around) (outer : List PySem.Env) (s : Shared) (H : Hp) (E : XK), PSs (cxOf (L2.CX P w) P w K mg base N qual (defScope st) f cdv A outer s H E) (defBody st) (tI0 K m)) :
    FnOk P w K mg base (L2.CX P w) (k + 1) f fd ps (spX C []) := by
  refine F.okX S (fun vs H Q E h => ?_) fun cdv A outer s H vs Q E hr h => ⟨_, hb cdv A outer s H E, ?_⟩
  · obtain ⟨a, ws, rfl, hl, _⟩ := h
    rw [List.length_cons, hl, hp]; rfl
  · obtain ⟨a, ws, rfl, hl, ha, q⟩ := h
    obtain rfl := List.eq_nil_of_length_eq_zero hl
    refine ⟨.ref a, by unfold L2.start; rfl, a, C, [.str m], rfl, by simp, T, ha, q _ rfl⟩
theorem init1_ok (T : OexC K C) (n1 : PySem.W.findIn K (.ref C) f1 = some none) (F : Fun K x qual st f fd) (S : FnScope N ps (defScope st)) (hp : ps.length = 2) (hN : N.length = 2)
    (hb : ∀ (cdv : Value) (A : Around) (outer : List PySem.Env) (s : Shared) (H : Hp) (E : XK), PSs (cxOf (L2.CX P w) P w K mg base N qual (defScope st) f cdv A outer s H E) (defBody st) (tSeq (tI0 K m) (tOst K f1 (tVar 0) (tVar 1)))) :
    FnOk P w K mg base (L2.CX P w) (k + 1) f fd ps (spX C [f1]) := by
  refine F.okX S (fun vs H Q E h => ?_) fun cdv A outer s H vs Q E hr h => ⟨_, hb cdv A outer s H E, ?_⟩
  · obtain ⟨a, ws, rfl, hl, _⟩ := h
    rw [List.length_cons, hl, hp]; rfl
  · obtain ⟨a, ws, rfl, hl, ha, q⟩ := h
    obtain ⟨u, rfl⟩ : ∃ u, ws = [u] := by
      cases ws with
      | nil => cases hl
      | cons u r => cases r with
        | nil => exact ⟨u, rfl⟩
        | cons _ _ => cases hl
    refine ⟨.ref a, by unfold L2.start; rfl, a, C, [.str m], rfl, by simp, T, ha, ?_⟩
    refine ⟨u, by unfold L2.start; rfl, .ref a, by unfold L2.start; rfl, a, C, rfl, T, n1, .inl ⟨ha, fun d hd hne => q _ ⟨d, hd, hne, rfl⟩⟩⟩
theorem init2_ok (T : OexC K C) (n1 : PySem.W.findIn K (.ref C) f1 = some none) (n2 : PySem.W.findIn K (.ref C) f2 = some none) (F : Fun K x qual st f fd) (S : FnScope N ps (defScope st)) (hp : ps.length = 3) (hN : N.length = 3)
    (hb : ∀ (cdv : Value) (A : Around) (outer : List PySem.Env) (s : Shared) (H : Hp) (E : XK), PSs (cxOf (L2.CX P w) P w K mg base N qual (defScope st) f cdv A outer s H E) (defBody st) (tSeq (tI0 K m) (tSeq (tOst K f1 (tVar 0) (tVar 1)) (tOst K f2 (tVar 0) (tVar 2))))) :
    FnOk P w K mg base (L2.CX P w) (k + 1) f fd ps (spX C [f1, f2]) := by
  refine F.okX S (fun vs H Q E h => ?_) fun cdv A outer s H vs Q E hr h => ⟨_, hb cdv A outer s H E, ?_⟩
  · obtain ⟨a, ws, rfl, hl, _⟩ := h
    rw [List.length_cons, hl, hp]; rfl
  · obtain ⟨a, ws, rfl, hl, ha, q⟩ := h
    obtain ⟨u, u2, rfl⟩ : ∃ u u2, ws = [u, u2] := by
      cases ws with
      | nil => cases hl
      | cons u r => cases r with
        | nil => cases hl
        | cons u2 r2 => cases r2 with
          | nil => exact ⟨u, u2, rfl⟩
          | cons _ _ => cases hl
    refine ⟨.ref a, by unfold L2.start; rfl, a, C, [.str m], rfl, by simp, T, ha, ?_⟩
    refine ⟨u, by unfold L2.start; rfl, .ref a, by unfold L2.start; rfl, a, C, rfl, T, n1, .inl ⟨ha, fun d hd hne => ?_⟩⟩
    refine ⟨u2, by unfold L2.start; rfl, .ref a, by unfold L2.start; rfl, a, C, rfl, T, n2, .inr ⟨d, [(f1, u)], upd_same, by rw [upd_ne hne, upd_same], by simp, q _ ⟨d, hd, hne, ?_⟩⟩⟩
    rw [upd1 hne]
end
/-! ### raise -/
section
variable {X : Cx} {e : Expr} {es : List Expr} {ta : TA} {p pos : Pos}
/-- an exception without a dict is let go -/
theorem mk_endN {pins : List (Addr × Obj)} {σ : L2.St} {H1 : Hp} {Q : XK} {hp hp2 h2 : Heap} {g1 g2 : Array GenState} {d1 d2 : Drawn} {t1 t2 : Nat} {os1 os2 : OsState} {a C : Addr} (T : Raises X (.ref C)) (I1 : Inv X pins σ H1 ⟨hp, g1, d1, t1, os1⟩)
    (ha : hp.objs.size ≤ a) (k : ∀ b o, hp.get? b = some o → hp2.get? b = some o) (un : Un (frs X.stack) [] (upd H1 a (exo a C none)) (upd H1 a (exo a C none)) hp2 h2) (hok : HOk X.prog X.w (upd H1 a (exo a C none)) h2) (ho : os2 = os1) (hb : AllBare g2)
    (q : Q (.ref C) none H1) : MkP X pins σ Q (.ref a) ⟨h2, g2, d2, t2, os2⟩ := by
  have hn : H1 a = none := I1.hok.fresh ha
  obtain ⟨t0, hoe⟩ := exo_at hok upd_same
  obtain ⟨G, g1', g2'⟩ := restrict h2 fun b => decide (b ≠ a)
  have gk : ∀ b, b ≠ a → G.get? b = h2.get? b := fun b hb => g1' b (decide_eq_true hb)
  have ge : G.get? a = none := g2' a (by simp)
  have nha : ∀ {b : Addr} {o : Obj}, hp.get? b = some o → b ≠ a := fun {b o} z => Nat.ne_of_lt (Nat.lt_of_lt_of_le (Heap.lt_size z) ha)
  have up : ∀ {b : Addr}, b ≠ a → H1 b = none → upd H1 a (exo a C none) b = none := fun {b} hb n => by rw [upd_ne hb]; exact n
  have U : Un (frs X.stack) [] H1 H1 hp G := {
    keep := fun b o z n hf hx => by
      rw [gk b (nha z)]
      exact un.keep b o (k b o z) (up (nha z) n) hf hx
    slot := fun b o z n hf hx => by
      rw [gk b (nha z)]
      exact un.slot b o (k b o z) (up (nha z) n) hf hx
    free := fun b o z n hx => n
    there := fun b o z hx => by
      rw [gk b (nha z)]
      exact un.there b o (k b o z) hx
    tups := fun b xs z => z
    frzs := fun b o v z => z
    tbls := fun b ps z => ⟨#[], by rw [z]; simp⟩ }
  have hok3 : HOk X.prog X.w H1 G := fun b o z => by
    have hba : b ≠ a := fun e => by rw [e, hn] at z; cases z
    have noa : ∀ {c : Addr}, H1 c = some (.own b) → c ≠ a := fun {c} hc e => by rw [e, hn] at hc; cases hc
    exact (hok b o (by rw [upd_ne hba]; exact z)).stay (fun c v hc y => by
        have hca : c ≠ a := by
          rcases hc with hc | hc
          · rw [hc]
            exact hba
          · intro e
            rw [e, upd_same] at hc
            exact exo_own (Option.some.inj hc)
        rw [gk c hca]
        exact y)
      (fun c hc => by
        by_cases e : c = a
        · rw [e, upd_same] at hc; exact absurd (Option.some.inj hc) exo_own
        · rw [upd_ne e] at hc; exact hc)
      (fun c xs hc => by
        by_cases e : c = a
        · rw [e, upd_same] at hc; exact absurd (Option.some.inj hc) exo_tup
        · rw [upd_ne e] at hc; exact hc)
  have J : Inv X pins σ H1 ⟨G, g2, d2, t2, os2⟩ := I1.call' (ch := []) ho U hok3 hb (fun b z => absurd z (by simp))
  refine ⟨a, _, _, ⟨G, g2, d2, t2, os2⟩, _, .ref C, none, rfl, J, fun b o z => ?_, ge, hoe, ⟨rfl, rfl⟩, rfl, rfl, hn, rfl, hb, T, q⟩
  by_cases hba : b = a
  · rw [hba, ge] at z
    cases z
  · exact (gk b hba).symm.trans z
theorem pmk_oex0 {CX : CXT} {x : Str} {C fI : Addr} {k : Nat} {fd : FuncData} {ps : List Str} (T : OexC X.K C) (iC : PySem.W.findIn X.K (.ref C) "__init__" = some (some (.ref fI))) (tI : PySem.W.typeIn X.K (.ref fI) = some (.type "function"))
    (F1 : FnOk X.prog X.w X.K X.mg X.base CX k fI fd ps (spX C [])) (hr : Room (k + 1) X.A) (hb : Binds X.K fd ps []) (hx : Passes CX X (fun _ _ _ => False)) (hg : Gl X x) (hm : X.mg x = some (.ref C))
    (hdb : (x == ("__debug__" : Str)) = false := by decide) :
    PMk X (.Call (.Name x p) [] [] pos) (fun _ H Q => Q (.ref C) none H) := by
  intro pins s σ H1 Q I1 q1
  obtain ⟨nm, q, N, bs, bm, sn, sub, ab, col, dd, k0, k1, k2, k3, k5, hC, hbm⟩ := T.cls
  refine wpAny_Call_Name_kw (ld_glob I1 hg hm ?_ hdb)
  refine PySem.W.callWith_K0 I1.kIn T.kC ?_
  show wpAny _ _ (call (.ref C) []) _ _ _
  obtain ⟨hp, g, dr, tk, os⟩ := s
  have hsz : hp.objs.size ≤ hp.objs.size + 1 := Nat.le_succ _
  have hn : H1 (hp.objs.size + 1) = none := I1.hok.fresh hsz
  have kk : ∀ b o, hp.get? b = some o → ((hp.push (PySem.W.kdv_tup [])).push (PySem.HandSPX.excO C hp.objs.size)).get? b = some o := fun b o e => Heap.get?_push_of_some _ (Heap.get?_push_of_some _ e)
  have hget : ((hp.push (PySem.W.kdv_tup [])).push (PySem.HandSPX.excO C hp.objs.size)).get? (hp.objs.size + 1) = some (PySem.HandSPX.excO C hp.objs.size) := by heap_get
  have I2 : Inv X pins σ (upd H1 (hp.objs.size + 1) (exo (hp.objs.size + 1) C none)) ⟨(hp.push (PySem.W.kdv_tup [])).push (PySem.HandSPX.excO C hp.objs.size), g, dr, tk, os⟩ :=
    I1.laid (t' := tk) (a := hp.objs.size + 1) (o := exo (hp.objs.size + 1) C none) (h' := (hp.push (PySem.W.kdv_tup [])).push (PySem.HandSPX.excO C hp.objs.size)) kk hsz (exo_ok hget)
  have hsp : spX C [] [V.ref (hp.objs.size + 1)] (upd H1 (hp.objs.size + 1) (exo (hp.objs.size + 1) C none)) (fun v H2 => v = .non ∧ H2 = upd H1 (hp.objs.size + 1) (exo (hp.objs.size + 1) C none)) (fun _ _ _ => False) :=
    ⟨_, [], rfl, rfl, upd_same, fun H' e => ⟨rfl, e⟩⟩
  have hl : ([Value.ref (hp.objs.size + 1)] ++ []).length = ps.length := (F1.len _ _ _ _ hsp)
  refine wpAny_call (PySem.HandSPX.call_own F.excBase_ValueError (fun Y => PySem.HandSPX.refsVE_contains Y bm hbm) (I1.kIn _ _ hC) (PySem.W.looks_findIn I1.kIn iC) (fun self => PySem.W.bind_fn I1.kIn self tI) (Nat.zero_le _)
    (codeAny_mono (F1.run _ X.stack _ _ ⟨[Value.ref (hp.objs.size + 1)], []⟩ ([Value.ref (hp.objs.size + 1)] ++ []) _ _ (fun _ _ _ => False) (hr.make C [] []) (I2.env0.make C [] []) (hb _ [Value.ref (hp.objs.size + 1)] I2.kIn hl) (show Vals [V.ref (hp.objs.size + 1)] ([Value.ref (hp.objs.size + 1)] ++ []) from .cons rfl .nil) hsp) fun r s' hq' => ?_))
  cases r with
  | error er => exact hx pins σ _ _ er s' I2 hq'
  | ok fl =>
    cases fl with
    | ret u =>
      obtain ⟨v, H2, os2, bare2, un2, hok2, rv, ev, e2⟩ := hq'
      subst ev
      subst e2
      obtain ⟨h2, g2, d2, t2, os'⟩ := s'
      exact ⟨rv, mk_endN (raises_own T.exC T.tyC) I1 hsz kk un2 hok2 os2 bare2 q1⟩
    | next => exact False.elim hq'
    | brk => exact False.elim hq'
    | cont => exact False.elim hq'
end
/-- an exception class of the text: its number, the level of its __init__, its fields -/
structure EC (P : Program) (w : World) (K : PySem.W.Frag) (mg : Str → Option Value) (base : Heap) (cm : Nat → Addr) (x : Str) (c k : Nat) (fs : List Str) : Prop where
  ex : ∃ fI fd ps, OexC K (cm c) ∧ PySem.W.findIn K (.ref (cm c)) "__init__" = some (some (.ref fI)) ∧ PySem.W.typeIn K (.ref fI) = some (.type "function") ∧ FnOk P w K mg base (L2.CX P w) k fI fd ps (spX (cm c) fs) ∧ Binds K fd ps [] ∧ mg x = some (.ref (cm c))
theorem zip_rev {α β : Type} : ∀ {l : List α} {m : List β}, l.length = m.length → (l.zip m).reverse = l.reverse.zip m.reverse
  | [], [], _ => rfl
  | a :: l, b :: m, h => by
    have hl : l.length = m.length := by simpa using h
    rw [List.zip_cons_cons, List.reverse_cons, List.reverse_cons, List.reverse_cons, zip_rev hl, List.zip_append (by simpa using hl)]
    rfl
  | [], _ :: _, h => by cases h
  | _ :: _, [], h => by cases h
section
variable {X : Cx} {y : Y} {e : Expr} {es : List Expr} {ma : M (List Tk)} {p pos pos2 : Pos} {x : Str} {c k kk : Nat} {fs : List Str}
theorem as_bind {g : List Tk → M Fl} {env : Env} {G : Hp} {σ : L2.St} {Hk : Hp} {D : Ends} {R : List V → Hp → Prop} (q : PoS (y.ct X) y.xa y.W G Hk (mBind ma g env) D)
    (k : ∀ t e v Hk' H1, ma env = .ok t e → Kx G Hk Hk' → RE (y.ct X) y.xa G e σ Hk' H1 → RVs (y.ct X) σ Hk' t v → PoS (y.ct X) y.xa y.W G Hk' (g t e) D → R v H1) : PoA (y.ct X) y.xa y.W G σ Hk (ma env) R := by
  unfold mBind at q
  cases e : ma env with
  | ok t e1 => rw [e] at q; exact fun v Hk' H' k' r' h' => k t e1 v Hk' H' e k' r' h' (q.kx k')
  | ex c ns ds e1 => rw [e] at q; exact PoXS.at q
  | bad => rw [e] at q; exact q
def mRaise0 (c : Nat) : M Fl := fun env => .ex c [] [] env
def mRaise (c : Nat) (fs : List Str) (ma : M (List Tk)) : M Fl := mBind ma fun ts env => match forceAll ts env with
  | .ok ds e => .ex c fs.reverse ds.reverse e
  | _ => .bad
theorem psx_raise0 (h : EC X.prog X.w X.K X.mg X.base y.cm x c k []) (hr : Room kk X.A) (hc : X.calm = true) (tk : Takes X y.W) (hk : k + 1 ≤ kk := by decide) (hg : Gl X x := by rfl) (hdb : (x == ("__debug__" : Str)) = false := by decide) :
    PSx X y (.Raise (some (.Call (.Name x p) [] [] pos)) none pos2) (mRaise0 c) := by
  obtain ⟨fI, fd, ps, h1, h2, h3, h4, h5, h6⟩ := h.ex
  exact ⟨PS_imp (ps_raise hc tk (pmk_oex0 h1 h2 h3 h4 (hr.mono hk) h5 passL hg h6 hdb)) fun D σ H ⟨env, Hk, G, re, q⟩ => q _ _ σ Hk H (Kx.refl _ _) re ⟨rfl, .inl ⟨rfl, rfl, rfl⟩⟩⟩
theorem psx_raise {n : Nat} (h : EC X.prog X.w X.K X.mg X.base y.cm x c k fs) (hr : Room kk X.A) (hc : X.calm = true) (tk : Takes X y.W) (ha : PAs X y (e :: es) ma) (hl : fs.length = n + 1 := by rfl) (hn : Many ma (n + 1) := by repeat first | exact many_nil | refine many_cons ?_) (hn2 : n < 1000 := by decide) (hk : k + 1 ≤ kk := by decide) (hg : Gl X x := by rfl) (hdb : (x == ("__debug__" : Str)) = false := by decide)
    (he : starEach (e :: es) X.env = (false, eval e X.env) :: starEach es X.env := by rfl) (hpl : (backTo pos (starEach es X.env)).any (·.1) = false := by rfl) :
    PSx X y (.Raise (some (.Call (.Name x p) (e :: es) [] pos)) none pos2) (mRaise c fs ma) := by
  obtain ⟨fI, fd, ps, h1, h2, h3, h4, h5, h6⟩ := h.ex
  refine ⟨PS_imp (ps_raise hc tk (pmk_oex h1 h2 h3 h4 (hr.mono hk) h5 .nil passL hg h6 ha.pa hdb he hpl)) fun D σ H ⟨env, Hk, G, re, q⟩ => ⟨env, Hk, G, re, as_bind q fun ts e1 vs Hk' H1 z k1 r1 rs q1 => ?_⟩⟩
  have hlen : vs.length = fs.length := by rw [← rs.len, hn _ _ _ z, hl]
  refine ⟨by omega, fun a hfree => ⟨a, vs, by rw [List.append_nil], hlen, upd_same, fun H' hx => ⟨rfl, ?_⟩⟩⟩
  cases z2 : forceAll ts e1 with
  | bad => rw [z2] at q1; exact q1.elim
  | ex _ _ _ _ => rw [z2] at q1; exact q1.elim
  | ok ds e2 =>
    rw [z2] at q1
    obtain ⟨Hk2, k2, r2, rl⟩ := RVs.force r1 rs z2
    cases zl : (fs.zip vs).reverse with
    | nil =>
      have : (fs.zip vs).reverse.length = 0 := by rw [zl]; rfl
      rw [List.length_reverse, List.length_zip, hlen] at this
      omega
    | cons f0 fr =>
      rw [zl] at hx
      obtain ⟨d, hd, hne, rfl⟩ := hx
      have hd1 : H1 d = none := by rw [upd_ne hne] at hd; exact hd
      refine ⟨d, f0 :: fr, upd_same, by rw [upd_ne hne, upd_same], hd1, ?_⟩
      have eH : upd (del (upd (upd (upd H1 a (exo a (y.cm c) none)) d (exd d (f0 :: fr))) a (exo a (y.cm c) (some d))) a) d (.xd (f0 :: fr)) = upd H1 d (.xd (f0 :: fr)) := by
        funext b
        by_cases hb : b = d
        · rw [hb, upd_same, upd_same]
        · rw [upd_ne hb, upd_ne hb]
          by_cases hba : b = a
          · rw [hba, del_same, hfree]
          · rw [del_ne hba, upd_ne hba, upd_ne hb, upd_ne hba]
      rw [eH]
      refine q1 _ _ σ Hk2 _ k2 (r2.ext (Ex.new hd1)) ⟨rfl, .inr ⟨d, vs.reverse, rfl, ?_, by simp [hlen], rl.reverse⟩⟩
      rw [upd_same, ← zip_rev hlen.symm, zl]
end
end VM

set_option Elab.async false
set_option linter.all false
set_option maxRecDepth 100000
set_option maxHeartbeats 1000000
/-! VM G: try .. with several clauses, each with or without a name -/
namespace VM
open PySem PySem.Spec PyProof.Rows L2
abbrev Cl := Value × Option Nat × (Addr → Value → Option Addr → TS)
/-- an end of a clause: its name goes -/
def endsAt (oi : Option Nat) (D : Ends) : Ends := match oi with
  | none => D
  | some i => { nx := fun σ' H' => D.nx (σ'.set i none) H', rt := D.rt, bk := fun σ' H' => D.bk (σ'.set i none) H', ct := fun σ' H' => D.ct (σ'.set i none) H' }
def atCl (oi : Option Nat) (a : Addr) (σ : L2.St) : L2.St := match oi with
  | none => σ
  | some i => σ.set i (some (.ref a))
def wAll (K : PySem.W.Frag) (Wout : WX) (D : Ends) : List Cl → WX
  | [] => Wout
  | (c, oi, ts) :: r => fun cls d σ H => ∃ b, PySem.W.exmOne K cls c = some b ∧ (b = true → ∀ a, H a = none → ts a cls d (endsAt oi D) (atCl oi a σ) H) ∧ (b = false → wAll K Wout D r cls d σ H)
inductive ClsOk (X : Cx) : List ExceptHandler → List Cl → Prop
  | nil : ClsOk X [] []
  | cons {x : Str} {c : Value} {ts : Addr → Value → Option Addr → TS} {b₀ : Stmt} {suite : List Stmt} {np pos' : Pos} {hds : List ExceptHandler} {l : List Cl} (hc : Names X x c)
      (hsu : ∀ (a : Addr) (oe : Obj) (cls : Value) (d : Option Addr) (pn : List (Addr × Obj)), Zc cls d oe → (∃ vs, oe.data = .fields vs) → PSs (X.suite a ((a, oe) :: pn)) (b₀ :: suite) (ts a cls d)) (r : ClsOk X hds l) :
      ClsOk X (.ExceptHandler (some (.Name x np)) none (b₀ :: suite) pos' :: hds) ((c, none, ts) :: l)
  | consN {x n : Str} {c : Value} {i : Nat} {ts : Addr → Value → Option Addr → TS} {b₀ : Stmt} {suite : List Stmt} {np pos' : Pos} {hds : List ExceptHandler} {l : List Cl} (hN : X.N.Nodup) (hi : X.N[i]? = some n) (hln : X.env.kindOf n = some .local) (hc : Names X x c)
      (hsu : ∀ (a : Addr) (oe : Obj) (cls : Value) (d : Option Addr) (pn : List (Addr × Obj)), Zc cls d oe → (∃ vs, oe.data = .fields vs) → PSs (X.suite a ((a, oe) :: pn)) (b₀ :: suite) (ts a cls d)) (r : ClsOk X hds l) :
      ClsOk X (.ExceptHandler (some (.Name x np)) (some n) (b₀ :: suite) pos' :: hds) ((c, some i, ts) :: l)
section
variable {X : Cx} {body : List Stmt} {h₀ : ExceptHandler} {hds : List ExceptHandler} {l : List Cl} {pos : Pos} {tb : WX → TS} {Wout : WX}
theorem ps_try_all (hs : X.stack = X.env :: X.outer) (hf : X.env.frame = some X.env.locals) (tk : Takes X Wout)
    (hb : ∀ (W : WX) (pn : List (Addr × Obj)) (xe : Value → Shared → Prop), Takes (X.tr pn xe) W → PassesOwn (model X.prog X.w) X.A X.env xe → PSs (X.tr pn xe) body (tb W))
    (hh : ClsOk X (h₀ :: hds) l) : PS X (.Try body (h₀ :: hds) [] [] pos) (fun D σ H => tb (wAll X.K Wout D l) D σ H) := by
  refine ⟨fun pins s σ H D I h => ?_⟩
  have ok := I.ok
  have hfr : X.A.frames = some (X.env :: X.outer) := by rw [ok.frames, hs]
  refine wpAny_Try_except ?_
  refine wpAny_mono ((hb (wAll X.K Wout D l) (X.pn ++ pins) (fun e s₁ => wpAny (model X.prog X.w) X.A (noteFrame e X.env) (fun _ s₂ => wpAny (model X.prog X.w) X.A (setFlight e none) (fun _ s₃ =>
    wpAny (model X.prog X.w) X.A (handleBy e X.env (h₀ :: hds)) (SP X pins D) X.xe s₃) X.xe s₂) X.xe s₁) (fun u s' xx => ?_) PassesOwn.looking).run [] s σ H D (I.toTry _) h) (fun f s1 hsp => ?_) (fun e s1 he => he)
  · -- the catch
    obtain ⟨a, B, sI, pins', σ', H', cls, d, rfl, J', nb, up, sky, na, os, ag, w⟩ := xx
    have J : Inv X pins σ' H' sI := J'.ofTry ok
    have sky' : Sky B (X.env :: X.outer) a (Zc cls d) X.env.locals s'.heap := by rw [← hs]; exact sky
    show wpAny (model X.prog X.w) X.A (noteFrame (.ref a) X.env) _ _ _
    refine Sky.land Zc.steady hfr hf sky' fun h3 fl3 up3 => ?_
    have J3 : Inv X pins σ' H' { s' with heap := h3 } := J.landed nb fl3.1 (up.trans up3) os ag
    obtain ⟨oe3, vs3, he3, hz3, hd3⟩ := fl3.there
    have notFr : ∀ {h : Heap} {o : Obj} {vs : Array Value}, h.FunFrames B (X.env :: X.outer) → h.get? a = some o → o.data = .fields vs → a ∉ frs (X.env :: X.outer) := fun {h o vs} ff e dd hm => by
      obtain ⟨_, o', e', hnf⟩ := ff.mem hm
      rw [e] at e'; cases e'
      exact hnf _ dd
    have nfr := notFr fl3.2.2.1 he3 hd3
    have nL : a ≠ X.env.locals := fun z => nfr (List.mem_filterMap.mpr ⟨X.env, List.mem_cons_self, by rw [hf, z]⟩)
    have nF : a ∉ X.fs := fun hm => by
      obtain ⟨e, he, q⟩ := List.mem_filterMap.mp hm
      exact nfr (List.mem_filterMap.mpr ⟨e, List.mem_cons_of_mem _ he, q⟩)
    have S3 := J3.suite he3 hd3 na nL nF
    have LT : PySem.W.Looks (model X.prog X.w) h3 (typeOf (.ref a)) cls := fun A Q E s k q => wpAny_typeOf_ref (k _ _ he3) (by rw [hz3.1]; exact q)
    have test : ∀ {x : Str} {c : Value} {np : Pos} {Q : Value → Shared → Prop} {E : Value → Shared → Prop}, Names X x c → Q c { s' with heap := h3 } → wpAny (model X.prog X.w) (X.A.mark (some (.ref a))) (eval (.Name x np) X.env) Q E { s' with heap := h3 } := fun {x c np Q E} hc q => by
      obtain ⟨hg, hdbg, hm | ⟨hm, hv, hnn⟩⟩ := hc
      · exact ld_glob (X := X.suite a ((a, oe3) :: (X.pn ++ pins))) S3 hg hm q hdbg
      · exact ld_blt (X := X.suite a ((a, oe3) :: (X.pn ++ pins))) S3 hg hm hv q hnn hdbg
    have go : ∀ {hds' : List ExceptHandler} {l' : List Cl}, ClsOk X hds' l' → wAll X.K Wout D l' cls d σ' H' →
        wpAny (model X.prog X.w) X.A (handleBy (.ref a) X.env hds') (SP X pins D) X.xe { s' with heap := h3 } := by
      intro hds' l' hk
      induction hk with
      | nil =>
        intro w
        refine wpAny_handleBy_nil ?_
        obtain ⟨k1, k2, k3, oe, vs, T, oT, ts', he, hz, hd, h1, hr⟩ := id fl3
        unfold PySem.passOn
        refine wpAny_bind (wpAny_field he hd h1 ?_)
        rw [if_neg (show ¬ ((Value.ref T == Value.none) = true) from by simp)]
        have fin : wpAny (model X.prog X.w) X.A (setFlight (.ref a) X.env.frame) (fun _ s4 => wpAny (model X.prog X.w) X.A (throw (.ref a) : Sem Flow) (SP X pins D) X.xe s4) X.xe { s' with heap := h3 } := by
          rw [hf]
          refine HandSPX.setFlight_upZ fl3 fun h4 hh4 up4 => wpAny_throw (tk _ _ ?_)
          exact ⟨a, B, sI, pins, σ', H', cls, d, rfl, J, nb, (up.trans up3).trans up4, .inr (.inr (by rw [hs]; exact hh4)), na, os, ag, w⟩
        first
          | exact wpAny_bind (wpAny_pure (wpAny_bind fin))
          | exact wpAny_bind fin
      | @cons x c ts b₀ suite np pos' hds2 l2 hc hsu r ih =>
        intro w
        obtain ⟨b, hb1, hyes, hno⟩ := w
        refine wpAny_handleBy_cons (codeAny_handlers_test ?_) (by intro q; cases q)
        have LM := PySem.W.exm_one (M := model X.prog X.w) (J3.kIn) LT hb1
        refine test hc (LM.here ?_)
        cases b with
        | true =>
          refine codeAny_handlers_suite ?_
          refine HandSPX.lands_againZ fl3 fun h4 fl4 up4 => ?_
          have J4 : Inv X pins σ' H' { s' with heap := h4 } := J.landed nb fl4.1 ((up.trans up3).trans up4) os ag
          obtain ⟨oe4, vs4, he4, hz4, hd4⟩ := fl4.there
          have S4 := J4.suite he4 hd4 na nL nF
          refine wpAny_mono ((hsu a oe4 cls d (X.pn ++ pins) hz4 ⟨_, hd4⟩).run [] _ _ H' _ S4 (hyes rfl a na)) (fun f s6 hsp => ?_) (fun _ _ z => False.elim z)
          cases f with
          | next =>
            obtain ⟨σ6, H6, S6, q6⟩ := hsp
            exact ⟨_, _, S6.unsuite ok, q6⟩
          | brk =>
            obtain ⟨σ6, H6, S6, q6⟩ := hsp
            exact ⟨_, _, S6.unsuite ok, q6⟩
          | cont =>
            obtain ⟨σ6, H6, S6, q6⟩ := hsp
            exact ⟨_, _, S6.unsuite ok, q6⟩
          | ret u =>
            obtain ⟨v6, σ6, H6, S6, r6, q6⟩ := hsp
            exact ⟨_, _, _, S6.unsuite ok, r6, q6⟩
        | false =>
          show wpAny _ X.A (handleBy (.ref a) X.env hds2) _ _ _
          exact ih (hno rfl)
      | @consN x n c i ts b₀ suite np pos' hds2 l2 hN hi hln hc hsu r ih =>
        intro w
        obtain ⟨b, hb1, hyes, hno⟩ := w
        refine wpAny_handleBy_cons (codeAny_handlers_test ?_) (by intro q; cases q)
        have LM := PySem.W.exm_one (M := model X.prog X.w) (J3.kIn) LT hb1
        refine test hc (LM.here ?_)
        cases b with
        | true =>
          refine codeAny_handlers_suite_as ?_
          refine HandSPX.lands_againZ fl3 fun h4 fl4 up4 => ?_
          have J4 : Inv X pins σ' H' { s' with heap := h4 } := J.landed nb fl4.1 ((up.trans up3).trans up4) os ag
          obtain ⟨oe4, vs4, he4, hz4, hd4⟩ := fl4.there
          have S4 := J4.suite he4 hd4 na nL nF
          refine store_ok (X := X.suite a ((a, oe4) :: (X.pn ++ pins))) (v := .ref a) S4 hN hi (.inl hln) rfl (fun s5 S5 => ?_) (.inr hln)
          refine wpAny_mono ((hsu a oe4 cls d (X.pn ++ pins) hz4 ⟨_, hd4⟩).run [] s5 _ H' _ S5 (hyes rfl a na)) (fun f s6 hsp => ?_) (fun _ _ z => False.elim z)
          have end_ : ∀ {σ6 : L2.St} {H6 : Hp} {Q : Shared → Prop}, Inv (X.suite a ((a, oe4) :: (X.pn ++ pins))) [] σ6 H6 s6 → (∀ s7, Inv X pins (σ6.set i none) H6 s7 → Q s7) →
              wpAny (model X.prog X.w) X.A (do bindName X.env n .none; unbindBehindTheSuite X.env n pos') (fun _ s7 => Q s7) X.xe s6 := fun {σ6 H6 Q} S6 hq => gone_ok (S6.unsuite ok) hN hi hln hq
          cases f with
          | next =>
            obtain ⟨σ6, H6, S6, q6⟩ := hsp
            exact end_ S6 fun s7 J7 => ⟨_, _, J7, q6⟩
          | brk =>
            obtain ⟨σ6, H6, S6, q6⟩ := hsp
            exact end_ S6 fun s7 J7 => ⟨_, _, J7, q6⟩
          | cont =>
            obtain ⟨σ6, H6, S6, q6⟩ := hsp
            exact end_ S6 fun s7 J7 => ⟨_, _, J7, q6⟩
          | ret u =>
            obtain ⟨v6, σ6, H6, S6, r6, q6⟩ := hsp
            exact end_ S6 fun s7 J7 => ⟨_, _, _, J7, r6, q6⟩
        | false =>
          show wpAny _ X.A (handleBy (.ref a) X.env hds2) _ _ _
          exact ih (hno rfl)
    exact go hh w
  · cases f with
    | next =>
      obtain ⟨σ', H', J', q⟩ := hsp
      exact wpAny_execs_nil ⟨σ', H', J'.ofTry ok, q⟩
    | brk =>
      obtain ⟨σ', H', J', q⟩ := hsp
      exact ⟨σ', H', J'.ofTry ok, q⟩
    | cont =>
      obtain ⟨σ', H', J', q⟩ := hsp
      exact ⟨σ', H', J'.ofTry ok, q⟩
    | ret u =>
      obtain ⟨v, σ', H', J', r, q⟩ := hsp
      exact ⟨v, σ', H', J'.ofTry ok, r, q⟩
end
/-! ### the same over plain data -/
def clearX : S → S
  | .xv _ _ _ => .no
  | s => s
def unX (env : Env) : Env := env.map clearX
theorem unX_get {env : Env} {i : Nat} {s : S} (h : (unX env)[i]? = some s) (hs : s ≠ .no) : env[i]? = some s ∧ ∀ c ns ds, s ≠ .xv c ns ds := by
  unfold unX at h
  rw [List.getElem?_map] at h
  cases z : env[i]? with
  | none => rw [z] at h; cases h
  | some u =>
    rw [z] at h
    cases u with
    | xv c ns ds => cases h; exact absurd rfl hs
    | no => cases h; exact absurd rfl hs
    | sh d => cases h; exact ⟨rfl, fun _ _ _ e => by cases e⟩
    | ow d => cases h; exact ⟨rfl, fun _ _ _ e => by cases e⟩
section
variable {C : Ct} {G Hk H : Hp} {env : Env} {σ : L2.St} {p : Option Addr} {t : Addr × Value × Option Addr}
theorem RE.unX (r : RE C ⟨some t, p⟩ G env σ Hk H) : RE C ⟨none, p⟩ G (VM.unX env) σ Hk H := by
  refine ⟨by unfold VM.unX; rw [List.length_map]; exact r.len, r.hk, r.g, fun i d h => r.sh i d (unX_get h (by simp)).1, fun i d h => r.ow i d (unX_get h (by simp)).1,
    fun i j d d' a h1 h2 => r.inj i j d d' a (unX_get h1 (by simp)).1 (unX_get h2 (by simp)).1, fun i c ns ds h => absurd rfl ((unX_get h (by simp)).2 c ns ds), fun a d h1 h2 => r.pn a d h1 (unX_get h2 (by simp)).1⟩
theorem RE.toX (r : RE C ⟨none, p⟩ G env σ Hk H) : RE C ⟨some t, p⟩ G env σ Hk H :=
  ⟨r.len, r.hk, r.g, r.sh, r.ow, r.inj, fun i c ns ds h => (by
    obtain ⟨a, cls, dd, e, _⟩ := r.xv i c ns ds h
    cases e), r.pn⟩
theorem RE.setX (r : RE C ⟨none, p⟩ G env σ Hk H) {i c : Nat} {ns : List Str} {ds : List D} {a : Addr} {cls : Value} {dd : Option Addr} (rx : RpX C Hk H c ns ds cls dd) :
    RE C ⟨some (a, cls, dd), p⟩ G (env.set i (.xv c ns ds)) (σ.set i (some (.ref a))) Hk H := by
  have r1 := (r.dropSet i (some (.ref a))).toX (t := (a, cls, dd))
  refine ⟨by simpa using r.len, r.hk, r.g, fun j d h => ?_, fun j d h => ?_, fun j k d d' b h1 h2 => ?_, fun j c' ns' ds' h => ?_, fun b d h1 h2 => ?_⟩
  · rcases set_get h with ⟨_, _, e⟩ | ⟨ne, e⟩
    · cases e
    · exact r1.sh j d (by rw [List.getElem?_set_ne ne]; exact e)
  · rcases set_get h with ⟨_, _, e⟩ | ⟨ne, e⟩
    · cases e
    · exact r1.ow j d (by rw [List.getElem?_set_ne ne]; exact e)
  · rcases set_get h1 with ⟨_, _, e⟩ | ⟨ne1, e1⟩
    · cases e
    · rcases set_get h2 with ⟨_, _, e⟩ | ⟨ne2, e2⟩
      · cases e
      · exact r1.inj j k d d' b (by rw [List.getElem?_set_ne ne1]; exact e1) (by rw [List.getElem?_set_ne ne2]; exact e2)
  · rcases set_get h with ⟨rfl, hl, e⟩ | ⟨ne, e⟩
    · cases e
      exact ⟨a, cls, dd, rfl, by rw [List.getElem?_set_self (by rw [← r.len]; exact hl)], rx⟩
    · obtain ⟨_, _, _, e', _⟩ := r.xv j c' ns' ds' e
      cases e'
  · rcases set_get h2 with ⟨_, _, e⟩ | ⟨ne, e⟩
    · cases e
    · exact r1.pn b d h1 (by rw [List.getElem?_set_ne ne]; exact e)
end
def leave (oi : Option Nat) (env : Env) : Env := match oi with
  | none => unX env
  | some i => (unX env).set i .no
def enter (oi : Option Nat) (c : Nat) (ns : List Str) (ds : List D) (env : Env) : Env := match oi with
  | none => env
  | some i => env.set i (.xv c ns ds)
def suiteEnd (oi : Option Nat) : Rs Fl → Rs Fl
  | .ok .nx e => .ok .nx (leave oi e)
  | .ok .bk e => .ok .bk (leave oi e)
  | .ok .ct e => .ok .ct (leave oi e)
  | .ok (.rt t) e => .ok (.rt t) (unX e)
  | _ => .bad
def mHandle (sub : Nat → D → Option Bool) (c : Nat) (ns : List Str) (ds : List D) : List (D × Option Nat × M Fl) → M Fl
  | [], e => .ex c ns ds e
  | (k, oi, m) :: r, e => match sub c k with
    | some true => suiteEnd oi (m (enter oi c ns ds e))
    | some false => mHandle sub c ns ds r e
    | none => .bad
def mTry (sub : Nat → D → Option Bool) (body : M Fl) (hs : List (D × Option Nat × M Fl)) : M Fl := fun env => match body env with
  | .ex c ns ds e => mHandle sub c ns ds hs e
  | r => r
structure SubX (K : PySem.W.Frag) (cm : Nat → Addr) (sub : Nat → D → Option Bool) : Prop where
  ok : ∀ c k b cv, sub c k = some b → valT cm k = some cv → PySem.W.exmOne K (.ref (cm c)) cv = some b
abbrev ySu (y : Y) (a : Addr) (cls : Value) (d : Option Addr) : Y := ⟨y.cm, ⟨some (a, cls, d), y.xa.p⟩, fun _ _ _ _ => False⟩
inductive HxOk (X : Cx) (y : Y) : List ExceptHandler → List (D × Option Nat × M Fl) → Prop
  | nil : HxOk X y [] []
  | cons {x : Str} {k : D} {cv : Value} {m : M Fl} {b₀ : Stmt} {suite : List Stmt} {np pos' : Pos} {hds : List ExceptHandler} {l : List (D × Option Nat × M Fl)} (hv : valT y.cm k = some cv) (hc : Names X x cv)
      (hsu : ∀ (a : Addr) (oe : Obj) (cls : Value) (d : Option Addr) (pn : List (Addr × Obj)), Zc cls d oe → (∃ vs, oe.data = .fields vs) → PSSx (X.suite a ((a, oe) :: pn)) (ySu y a cls d) (b₀ :: suite) m) (r : HxOk X y hds l) :
      HxOk X y (.ExceptHandler (some (.Name x np)) none (b₀ :: suite) pos' :: hds) ((k, none, m) :: l)
  | consN {x n : Str} {k : D} {cv : Value} {i : Nat} {m : M Fl} {b₀ : Stmt} {suite : List Stmt} {np pos' : Pos} {hds : List ExceptHandler} {l : List (D × Option Nat × M Fl)} (hN : X.N.Nodup) (hi : X.N[i]? = some n) (hln : X.env.kindOf n = some .local) (hv : valT y.cm k = some cv) (hc : Names X x cv)
      (hsu : ∀ (a : Addr) (oe : Obj) (cls : Value) (d : Option Addr) (pn : List (Addr × Obj)), Zc cls d oe → (∃ vs, oe.data = .fields vs) → PSSx (X.suite a ((a, oe) :: pn)) (ySu y a cls d) (b₀ :: suite) m) (r : HxOk X y hds l) :
      HxOk X y (.ExceptHandler (some (.Name x np)) (some n) (b₀ :: suite) pos' :: hds) ((k, some i, m) :: l)
/-- a clause's reading -/
def clOf (X : Cx) (y : Y) (q : D × Option Nat × M Fl) : Cl := ((valT y.cm q.1).getD .none, q.2.1, fun a cls d D σ H => ∃ env Hk G, RE (y.ct X) ⟨some (a, cls, d), y.xa.p⟩ G env σ Hk H ∧ PoS (y.ct X) ⟨some (a, cls, d), y.xa.p⟩ (fun _ _ _ _ => False) G Hk (q.2.2 env) D)
theorem hx_cls {X : Cx} {y : Y} {hds : List ExceptHandler} {l : List (D × Option Nat × M Fl)} (h : HxOk X y hds l) : ClsOk X hds (l.map (clOf X y)) ∧ ∀ q ∈ l, ∃ cv, valT y.cm q.1 = some cv := by
  induction h with
  | nil => exact ⟨.nil, fun q hq => by cases hq⟩
  | @cons x k cv m b₀ suite np pos' hds l hv hc hsu r ih =>
    refine ⟨.cons (by show Names X x ((valT y.cm k).getD .none); rw [hv]; exact hc) (fun a oe cls d pn z f => PSs_imp (hsu a oe cls d pn z f).pss fun D σ H q => q) ih.1, fun q hq => ?_⟩
    rcases List.mem_cons.mp hq with rfl | hq
    · exact ⟨cv, hv⟩
    · exact ih.2 q hq
  | @consN x n k cv i m b₀ suite np pos' hds l hN hi hln hv hc hsu r ih =>
    refine ⟨.consN hN hi hln (by show Names X x ((valT y.cm k).getD .none); rw [hv]; exact hc) (fun a oe cls d pn z f => PSs_imp (hsu a oe cls d pn z f).pss fun D σ H q => q) ih.1, fun q hq => ?_⟩
    rcases List.mem_cons.mp hq with rfl | hq
    · exact ⟨cv, hv⟩
    · exact ih.2 q hq
section
variable {X : Cx} {y : Y} {body : List Stmt} {h₀ : ExceptHandler} {hds : List ExceptHandler} {l : List (D × Option Nat × M Fl)} {pos : Pos} {mb : M Fl} {sub : Nat → D → Option Bool}
theorem suite_go {C : Ct} {G Hk : Hp} {p : Option Addr} {t : Addr × Value × Option Addr} {W : WX} {oi : Option Nat} {D : Ends} {r : Rs Fl} (q : PoS C ⟨none, p⟩ W G Hk (suiteEnd oi r) D) : PoS C ⟨some t, p⟩ (fun _ _ _ _ => False) G Hk r (endsAt oi D) := by
  cases r with
  | bad => exact q.elim
  | ex c ns ds e => exact q.elim
  | ok fl e =>
    cases fl with
    | rt t =>
        intro v σ' Hk' H' k r rt
        have q : ∀ v σ' Hk' H', Kx G Hk Hk' → RE C ⟨none, p⟩ G (unX e) σ' Hk' H' → RT C G (unX e) σ' Hk' H' t v → D.rt v H' := q
        have q2 := q v σ' Hk' H' k r.unX (by
          cases t with
          | val d => exact rt
          | slot j => exact rt
          | new d =>
            obtain ⟨a, h1, h2, h3, h4⟩ := rt
            exact ⟨a, h1, h2, h3, fun i d' h => h4 i d' (unX_get h (by simp)).1⟩)
        cases oi <;> exact q2
    | nx =>
      cases oi with
      | none => exact fun σ' Hk' H' k r => q σ' Hk' H' k r.unX
      | some i => exact fun σ' Hk' H' k r => q (σ'.set i none) Hk' H' k (r.unX.dropSet i none)
    | bk =>
      cases oi with
      | none => exact fun σ' Hk' H' k r => q σ' Hk' H' k r.unX
      | some i => exact fun σ' Hk' H' k r => q (σ'.set i none) Hk' H' k (r.unX.dropSet i none)
    | ct =>
      cases oi with
      | none => exact fun σ' Hk' H' k r => q σ' Hk' H' k r.unX
      | some i => exact fun σ' Hk' H' k r => q (σ'.set i none) Hk' H' k (r.unX.dropSet i none)
theorem handle_go (S : SubX X.K y.cm sub) (hx : y.xa.x = none) {G Hk H : Hp} {c : Nat} {ns : List Str} {ds : List D} {σ : L2.St} {cls : Value} {dd : Option Addr} {Dd : Ends} : ∀ {l : List (D × Option Nat × M Fl)} {e : Env}, (∀ q ∈ l, ∃ cv, valT y.cm q.1 = some cv) →
    RE (y.ct X) y.xa G e σ Hk H → RpX (y.ct X) Hk H c ns ds cls dd → PoS (y.ct X) y.xa y.W G Hk (mHandle sub c ns ds l e) Dd → wAll X.K y.W Dd (l.map (clOf X y)) cls dd σ H
  | [], e, hv, re, rx, q => q cls dd σ Hk H (Kx.refl _ _) re rx
  | (k, oi, m) :: r, e, hv, re, rx, q => by
    obtain ⟨⟨xx, p⟩⟩ : Nonempty Xa := ⟨y.xa⟩
    obtain ⟨cv, hcv⟩ := hv _ List.mem_cons_self
    have hcv : valT y.cm k = some cv := hcv
    unfold mHandle at q
    cases z : sub c k with
    | none => rw [z] at q; exact q.elim
    | some b =>
      rw [z] at q
      refine ⟨b, ?_, fun hb a ha => ?_, fun hb => ?_⟩
      · rw [rx.1]
        show PySem.W.exmOne X.K (.ref (y.cm c)) ((valT y.cm k).getD .none) = some b
        rw [hcv]
        exact S.ok c k b cv z hcv
      · subst hb
        dsimp only at q
        have exa : y.xa = ⟨none, y.xa.p⟩ := by rw [← hx]
        rw [exa] at q re
        refine ⟨enter oi c ns ds e, Hk, G, ?_, suite_go q⟩
        cases oi with
        | none => exact re.toX
        | some i => exact re.setX rx
      · subst hb
        dsimp only at q
        exact handle_go S hx (fun q hq => hv q (List.mem_cons_of_mem _ hq)) re rx q
theorem psx_try (S : SubX X.K y.cm sub) (tk : Takes X y.W) 
    (hb : ∀ (W : WX) (pn : List (Addr × Obj)) (xe : Value → Shared → Prop), Takes (X.tr pn xe) W → PassesOwn (model X.prog X.w) X.A X.env xe → PSSx (X.tr pn xe) ⟨y.cm, y.xa, W⟩ body mb)
    (hh : HxOk X y (h₀ :: hds) l) (hx : y.xa.x = none := by rfl) (hs : X.stack = X.env :: X.outer := by rfl) (hf : X.env.frame = some X.env.locals := by rfl) : PSx X y (.Try body (h₀ :: hds) [] [] pos) (mTry sub mb l) := by
  obtain ⟨h1, h2⟩ := hx_cls hh
  refine ⟨PS_imp (ps_try_all (tb := fun W => tS X ⟨y.cm, y.xa, W⟩ mb) hs hf tk (fun W pn xe t p => (hb W pn xe t p).pss) h1) fun D σ H ⟨env, Hk, G, re, q⟩ => ⟨env, Hk, G, re, ?_⟩⟩
  unfold mTry at q
  cases z : mb env with
  | bad => rw [z] at q; exact q.elim
  | ok fl e => rw [z] at q; cases fl <;> exact q
  | ex c ns ds e =>
    rw [z] at q
    intro cls dd σ' Hk' H' k' r' rx
    exact handle_go S hx h2 r' rx (q.kx k')
end
/-! ### raised.f -/
def mXf (cs : List Nat) (k : Nat) (n : Str) : M Tk := fun env => match env[k]? with
  | some (.xv c ns ds) => if c ∈ cs then match (ns.zip ds).lookup n with
    | some d => .ok (.val d) env
    | none => .bad
  else .bad
  | _ => .bad
theorem look_put {α : Type} (f g : Str) (y : α) (fs : List (Str × α)) : ((f, y) :: fs).lookup g = if g = f then some y else fs.lookup g := by
  by_cases h : g = f
  · subst h
    simp [List.lookup]
  · have e : (g == f) = false := by simpa using h
    rw [if_neg h]
    simp [List.lookup, e]
theorem zip_look {C : Ct} {H : Hp} {n : Str} {d : D} : ∀ {ns : List Str} {ds : List D} {vs : List V}, RpL C H ds vs → (ns.zip ds).lookup n = some d → ∃ v, (ns.zip vs).lookup n = some v ∧ Rp C H d v
  | [], _, _, _, h => by cases h
  | _ :: _, [], _, _, h => by cases h
  | m :: ns, e :: ds, vs, r, h => by
    obtain ⟨v, r', rfl, r1, r2⟩ := r.inv
    rw [List.zip_cons_cons, look_put] at h
    rw [List.zip_cons_cons, look_put]
    by_cases q : n = m
    · rw [if_pos q] at h ⊢
      cases h
      exact ⟨v, rfl, r1⟩
    · rw [if_neg q] at h ⊢
      exact zip_look r2 h
theorem px_xf {X : Cx} {y : Y} {a : Addr} {oe : Obj} {cls : Value} {d : Option Addr} {pn : List (Addr × Obj)} {i : Nat} {pos p : Pos} {n x : Str} {cs : List Nat} (T : ∀ c ∈ cs, XfC X.K (y.cm c) ∧ PySem.W.findIn X.K (.ref (y.cm c)) n = some none)
    (hz : Zc cls d oe) (hf : ∃ vs, oe.data = .fields vs) (he : PE (X.suite a ((a, oe) :: pn)) (.Name x p) (tVar i)) (hb : attributeBase (.Name x p) n X.env (eval (.Name x p) X.env) = eval (.Name x p) X.env := by rfl) :
    PX (X.suite a ((a, oe) :: pn)) (ySu y a cls d) (.Attribute (.Name x p) n pos) (mXf cs i n) := by
  have P : PE (X.suite a ((a, oe) :: pn)) (.Attribute (.Name x p) n pos) (fun σ H Q => ∃ c ∈ cs, tXf a cls d (y.cm c) n (tVar i) σ H Q) :=
    ⟨fun pins s σ H Q I ⟨c, hc, h⟩ => (pe_xf (T c hc).1 (T c hc).2 hz hf he hb).run pins s σ H Q I h⟩
  refine ⟨PE_imp P fun σ H Q ⟨env, Hk, G, re, q⟩ => ?_⟩
  unfold mXf at q
  cases z : env[i]? with
  | none => rw [z] at q; exact q.elim
  | some s =>
    rw [z] at q
    cases s with
    | no => exact q.elim
    | sh _ => exact q.elim
    | ow _ => exact q.elim
    | xv c ns ds =>
      dsimp only at q
      by_cases hc : c ∈ cs
      · rw [if_pos hc] at q
        obtain ⟨a', cls', dd, e, hσ, rx⟩ := re.xv i c ns ds z
        cases e
        cases l : (ns.zip ds).lookup n with
        | none => rw [l] at q; exact q.elim
        | some dv =>
          rw [l] at q
          obtain ⟨ec, hh⟩ := rx
          rcases hh with ⟨rfl, rfl, _⟩ | ⟨d1, vs, ed, hd, hl, rl⟩
          · cases l
          · obtain ⟨v, hv, rv⟩ := zip_look rl l
            exact ⟨c, hc, .ref a, hσ, rfl, ec, d1, _, v, ed, hd, hv, q v Hk H (Kx.refl _ _) re rv⟩
      · rw [if_neg hc] at q; exact q.elim
end VM

set_option Elab.async false
set_option linter.all false
set_option maxRecDepth 100000
set_option maxHeartbeats 1000000
/-! VM H: more operators, walks, defaults, chains -/
namespace VM
open PySem PySem.Spec PyProof.Rows L2
section
variable {X : Cx} {y : Y} {a b c e : Expr} {es : List Expr} {m m1 m2 m3 : M Tk} {ma : M (List Tk)} {n : M Bool} {pos p : Pos}
/-! ### bits -/
def dShr : D → D → Option Tk := dI (fun _ j => decide (0 ≤ j)) fun i j => .int (i / 2 ^ j.toNat)
theorem px_shr (ha : PX X y a m1) (hb : PX X y b m2) : PX X y (.BinOp a .RShift b pos) (mBin dShr m1 m2) := px_bin op_shr (dI_ok (fun _ _ _ => rp_int) fun _ _ h => of_decide_eq_true h) ha hb
def dAnd : D → D → Option Tk := dI (fun _ _ => true) fun i j => .int (Builtin.bitAnd i j)
theorem px_band (ha : PX X y a m1) (hb : PX X y b m2) : PX X y (.BinOp a .BitAnd b pos) (mBin dAnd m1 m2) := px_bin op_and (dI0_ok fun _ _ _ => rp_int) ha hb
/-! ### str -/
def dStr : D → Option Tk
  | .int i => if i.natAbs.log2 < 1920 then some (.val (.str (toString i))) else none
  | .str s => some (.val (.str s))
  | _ => none
theorem str_ok : OpN X y (fn1 dStr) (fun xs H Q => (∃ i, xs = [.int i] ∧ i.natAbs.log2 < 1920 ∧ Q (.str (toString i)) H) ∨ ∃ a, xs = [.str a] ∧ Q (.str a) H) := op1N (by
  intro Hk H d v t Q e h pa q
  cases d <;> simp only [dStr] at h <;> first
    | (cases h; done)
    | (split at h
       · cases h; cases pa.int; exact .inl ⟨_, rfl, by assumption, q _ _ (res_flat rp_str e)⟩
       · cases h)
    | (cases h; cases pa.str; exact .inr ⟨_, rfl, q _ _ (res_flat rp_str e)⟩))
theorem px_str1 (hm : X.mg "str" = none) (ha : PAs X y [e] ma) (hg : Gl X "str" := by rfl) (he : starEach [e] X.env = (false, eval e X.env) :: starEach [] X.env := by rfl) : PX X y (.Call (.Name "str" p) [e] [] pos) (mCall (fn1 dStr) ma) := px_typ (callR_or call_str_int SkE.call_str_str) str_ok hg hm (by decide +kernel) ha (he := he) (hpl := by rfl)
/-! ### a <= b < c -/
theorem px_chain {f g : D → D → Option Bool} {r r' : R2} {op op' : CmpOp} (ho : OpR X (compareOp op) r) (ho' : OpR X (compareOp op') r') (of : ∀ Hk H a b v w k Q, Ex Hk H → f a b = some k → Pk (y.ct X) Hk H a v → Pk (y.ct X) Hk H b w → (Q (.bl k) H) → r v w H Q) (og : Op2 X y (lift g) r')
    (ha : PX X y a m1) (hb : PX X y b m2) (hc : PX X y c m3) (hm : lastMarks [op, op'] [b, c] = false := by with_unfolding_all rfl) : PX X y (.Compare a [op, op'] [b, c] pos) (mChain f g m1 m2 m3) := by
  refine ⟨PE_imp (pe_chain ho ho' ha.pe hb.pe hc.pe hm) fun σ H Q ⟨env, Hk, G, re, q⟩ => ⟨env, Hk, G, re, po_bind q fun t1 e1 v Hk1 H1 k1 r1 rt1 q1 => ?_⟩⟩
  obtain ⟨Hk1', k1', r1, rv1⟩ := rt1.settle r1
  refine ⟨e1, Hk1', G, r1, po_bind (q1.kx k1') fun t2 e2 w Hk2 H2 k2 r2 rt2 q2 => ?_⟩
  have rt1 := (rv1.kx k2).rt (G := G) (env := e2) (H := H2)
  obtain ⟨Hk2', k2', r2', rv2⟩ := rt2.settle r2
  cases z1 : look t1.settle e2 with
  | none => rw [z1] at q2; exact q2.elim
  | some d1 =>
    cases z2 : look t2 e2 with
    | none => rw [z1, z2] at q2; exact q2.elim
    | some d2 =>
      rw [z1, z2] at q2
      dsimp only at q2
      cases z3 : f d1 d2 with
      | none => rw [z3] at q2; exact q2.elim
      | some k =>
        rw [z3] at q2
        refine of Hk2 H2 d1 d2 v w k _ r2.hk z3 (rt1.look r2 z1) (rt2.look r2 z2) ⟨k, rfl, ?_⟩
        cases k with
        | false => exact q2 _ Hk2 H2 (Kx.refl _ _) r2 (rp_bl (C := y.ct X) (H := Hk2))
        | true =>
          rw [if_pos rfl]
          refine ⟨e2, Hk2', G, r2', po_bind (q2.kx k2') fun t3 e3 u Hk3 H3 k3 r3 rt3 q3 => ?_⟩
          have rt2' := (rv2.kx k3).rt (G := G) (env := e3) (H := H3)
          cases z4 : look t2.settle e3 with
          | none => rw [z4] at q3; exact q3.elim
          | some b' =>
            cases z5 : look t3 e3 with
            | none => rw [z4, z5] at q3; exact q3.elim
            | some cc =>
              rw [z4, z5] at q3
              dsimp only at q3
              unfold mOf at q3
              cases z6 : g b' cc with
              | none => rw [z6] at q3; exact q3.elim
              | some k2 =>
                rw [z6] at q3
                refine og Hk3 H3 b' cc w u (.val (.bl k2)) Q r3.hk (by unfold lift; rw [z6]) (rt2'.look r3 z4) (rt3.look r3 z5) fun z H' hz => ?_
                obtain ⟨Hk', k1, r1, rt⟩ := r3.res hz
                exact q3 z Hk' H' k1 r1 rt
theorem cI_one {c : Int → Int → Bool} {f : D → D → Option Bool} (hf : ∀ d1 d2 k, f d1 d2 = some k → ∃ i j, d1 = .int i ∧ d2 = .int j ∧ k = c i j) : ∀ (Hk H : Hp) (a b : D) (v w : V) (k : Bool) (Q : VK), Ex Hk H → f a b = some k → Pk (y.ct X) Hk H a v → Pk (y.ct X) Hk H b w → Q (.bl k) H → rI0 (fun i j => .bl (c i j)) v w H Q := by
  intro Hk H a b v w k Q e h pa pb q
  obtain ⟨i, j, rfl, rfl, rfl⟩ := hf _ _ _ h
  cases pa.int
  cases pb.int
  exact ⟨i, j, rfl, rfl, q⟩
theorem cLt_i (d1 d2 : D) (k : Bool) (h : cLt d1 d2 = some k) : ∃ i j, d1 = .int i ∧ d2 = .int j ∧ k = decide (i < j) := by
  cases d1 <;> cases d2 <;> first | (cases h; done) | (cases h; exact ⟨_, _, rfl, rfl, rfl⟩)
theorem cLe_i (d1 d2 : D) (k : Bool) (h : cLe d1 d2 = some k) : ∃ i j, d1 = .int i ∧ d2 = .int j ∧ k = decide (i ≤ j) := by
  cases d1 <;> cases d2 <;> first | (cases h; done) | (cases h; exact ⟨_, _, rfl, rfl, rfl⟩)
theorem px_lele (ha : PX X y a m1) (hb : PX X y b m2) (hc : PX X y c m3) (hm : lastMarks [.LtE, .LtE] [b, c] = false := by with_unfolding_all rfl) : PX X y (.Compare a [.LtE, .LtE] [b, c] pos) (mChain cLe cLe m1 m2 m3) := px_chain op_le op_le (cI_one cLe_i) cI_ok ha hb hc hm
theorem px_lelt (ha : PX X y a m1) (hb : PX X y b m2) (hc : PX X y c m3) (hm : lastMarks [.LtE, .Lt] [b, c] = false := by with_unfolding_all rfl) : PX X y (.Compare a [.LtE, .Lt] [b, c] pos) (mChain cLe cLt m1 m2 m3) := px_chain op_le op_lt (cI_one cLe_i) cI_ok ha hb hc hm
theorem px_ltle (ha : PX X y a m1) (hb : PX X y b m2) (hc : PX X y c m3) (hm : lastMarks [.Lt, .LtE] [b, c] = false := by with_unfolding_all rfl) : PX X y (.Compare a [.Lt, .LtE] [b, c] pos) (mChain cLt cLe m1 m2 m3) := px_chain op_lt op_le (cI_one cLt_i) cI_ok ha hb hc hm
theorem px_ltlt (ha : PX X y a m1) (hb : PX X y b m2) (hc : PX X y c m3) (hm : lastMarks [.Lt, .Lt] [b, c] = false := by with_unfolding_all rfl) : PX X y (.Compare a [.Lt, .Lt] [b, c] pos) (mChain cLt cLt m1 m2 m3) := px_chain op_lt op_lt (cI_one cLt_i) cI_ok ha hb hc hm
end
/-! ### enumerate, zip, reversed -/
def enumD : Nat → List D → List D
  | _, [] => []
  | k, x :: xs => .tup [.int (k : Nat), x] :: enumD (k + 1) xs
theorem enumD_get : ∀ {xs : List D} {k i : Nat} {d : D}, (enumD k xs)[i]? = some d → ∃ x, xs[i]? = some x ∧ d = .tup [.int ((k + i : Nat) : Int), x]
  | [], _, _, _, h => by cases h
  | x :: xs, k, 0, d, h => by cases h; exact ⟨x, rfl, rfl⟩
  | x :: xs, k, i + 1, d, h => by
    have h' : (enumD (k + 1) xs)[i]? = some d := by simpa [enumD] using h
    obtain ⟨z, h1, h2⟩ := enumD_get h'
    exact ⟨z, by simpa using h1, by rw [h2, show k + 1 + i = k + (i + 1) by omega]⟩
theorem enumD_len : ∀ {xs : List D} {k : Nat}, (enumD k xs).length = xs.length
  | [], _ => rfl
  | x :: xs, k => by show (enumD (k + 1) xs).length + 1 = _; rw [enumD_len]; rfl
def zipD : List D → List D → List D
  | x :: xs, y :: ys => .tup [x, y] :: zipD xs ys
  | _, _ => []
theorem zipD_get : ∀ {xs ys : List D} {i : Nat} {d : D}, (zipD xs ys)[i]? = some d → ∃ x y, xs[i]? = some x ∧ ys[i]? = some y ∧ d = .tup [x, y]
  | [], _, _, _, h => by simp [zipD] at h
  | _ :: _, [], _, _, h => by simp [zipD] at h
  | x :: xs, y :: ys, 0, d, h => by cases h; exact ⟨x, y, rfl, rfl, rfl⟩
  | x :: xs, y :: ys, i + 1, d, h => by
    have h' : (zipD xs ys)[i]? = some d := by simpa [zipD] using h
    obtain ⟨z, u, h1, h2, h3⟩ := zipD_get h'
    exact ⟨z, u, by simpa using h1, by simpa using h2, h3⟩
theorem zipD_len : ∀ {xs ys : List D}, (zipD xs ys).length = min xs.length ys.length
  | [], _ => by simp [zipD]
  | _ :: _, [] => by simp [zipD]
  | x :: xs, y :: ys => by
    show (zipD xs ys).length + 1 = min (xs.length + 1) (ys.length + 1)
    rw [zipD_len]; omega
theorem rpl2 {C : Ct} {H : Hp} {d1 d2 : D} {v1 v2 : V} (h1 : Rp C H d1 v1) (h2 : Rp C H d2 v2) : RpL C H [d1, d2] [v1, v2] := RpL.cons h1 (RpL.cons h2 RpL.nil)
theorem serv_enum {C : Ct} {Hk : Hp} {a : Addr} {xs : List D} {vs : List V} (h : SqL C.K Hk a vs) (r : RpL C Hk xs vs) : Serv C (Ite C.K a) Hk (enumD 0 xs) := by
  intro i Hk1 H e1 e2
  have h1 : SqL C.K H a vs := ex_l (e1.trans e2) h
  refine ⟨fun d hd => ?_, fun hi => ⟨vs, h1, by rw [enumD_len] at hi; rw [← r.len]; exact hi⟩⟩
  obtain ⟨x, hx, rfl⟩ := enumD_get hd
  obtain ⟨v, hv, rv⟩ := r.get hx
  refine ⟨⟨vs, v, h1, hv⟩, fun z H' hy => ?_⟩
  obtain ⟨T, u, rfl, hT, rfl, hu⟩ := hy
  have := hu vs h1
  rw [hv] at this
  cases this
  rw [Nat.zero_add]
  exact res_tup e2 hT (rpl2 rp_int (rv.mono e1))
theorem serv_zipL {C : Ct} {Hk : Hp} {a b : Addr} {xs ys : List D} {vs ws : List V} (h : SqL C.K Hk a vs) (r : RpL C Hk xs vs) (h' : SqL C.K Hk b ws) (r' : RpL C Hk ys ws) : Serv C (Itz C.K a b) Hk (zipD xs ys) := by
  intro i Hk1 H e1 e2
  have h1 : SqL C.K H a vs := ex_l (e1.trans e2) h
  have h2 : SqL C.K H b ws := ex_l (e1.trans e2) h'
  refine ⟨fun d hd => ?_, fun hi => ⟨vs, ws, h1, h2, by rw [zipD_len, r.len, r'.len] at hi; omega⟩⟩
  obtain ⟨x, y, hx, hy, rfl⟩ := zipD_get hd
  obtain ⟨v, hv, rv⟩ := r.get hx
  obtain ⟨w, hw, rw'⟩ := r'.get hy
  refine ⟨⟨vs, ws, v, w, h1, h2, hv, hw⟩, fun z H' hz => ?_⟩
  obtain ⟨T, p, q, rfl, hT, rfl, hp, hq⟩ := hz
  have e3 := hp vs h1
  have e4 := hq ws h2
  rw [hv] at e3
  rw [hw] at e4
  cases e3
  cases e4
  exact res_tup e2 hT (rpl2 (rv.mono e1) (rw'.mono e1))
theorem serv_zipT {C : Ct} {Hk : Hp} {a b : Addr} {xs ys : List D} {vs ws : List V} (h : Hk a = some (.tup vs)) (r : RpL C Hk xs vs) (h' : Hk b = some (.tup ws)) (r' : RpL C Hk ys ws) : Serv C (RZ.ItzT C.K a b) Hk (zipD xs ys) := by
  intro i Hk1 H e1 e2
  have h1 : SqT C.K H a vs := sqT (e2 _ _ (e1 _ _ h))
  have h2 : SqT C.K H b ws := sqT (e2 _ _ (e1 _ _ h'))
  refine ⟨fun d hd => ?_, fun hi => ⟨vs, ws, h1, h2, by rw [zipD_len, r.len, r'.len] at hi; omega⟩⟩
  obtain ⟨x, y, hx, hy, rfl⟩ := zipD_get hd
  obtain ⟨v, hv, rv⟩ := r.get hx
  obtain ⟨w, hw, rw'⟩ := r'.get hy
  refine ⟨⟨vs, ws, v, w, h1, h2, hv, hw⟩, fun z H' hz => ?_⟩
  obtain ⟨T, p, q, rfl, hT, rfl, hp, hq⟩ := hz
  have e3 := hp vs h1
  have e4 := hq ws h2
  rw [hv] at e3
  rw [hw] at e4
  cases e3
  cases e4
  exact res_tup e2 hT (rpl2 (rv.mono e1) (rw'.mono e1))
theorem serv_rev {C : Ct} {Hk : Hp} {a : Addr} {xs : List D} {vs : List V} (h : SqL C.K Hk a vs) (r : RpL C Hk xs vs) : Serv C (Itv C.K a vs.length) Hk xs.reverse := by
  intro i Hk1 H e1 e2
  have h1 : SqL C.K H a vs := ex_l (e1.trans e2) h
  have hl := r.len
  refine ⟨fun d hd => ?_, fun hi => by rw [List.length_reverse, hl] at hi; exact hi⟩
  have hi : i < xs.length := by
    have := (List.getElem?_eq_some_iff.mp hd).1
    simpa using this
  rw [List.getElem?_reverse hi, hl] at hd
  obtain ⟨v, hv, rv⟩ := r.get hd
  refine ⟨⟨by omega, vs, v, h1, hv⟩, fun z H' hz => ?_⟩
  obtain ⟨rfl, hx⟩ := hz
  have e3 := hx vs h1
  rw [hv] at e3
  cases e3
  exact res_flat (rv.mono e1) e2
theorem serv_revT {C : Ct} {Hk : Hp} {a : Addr} {xs : List D} {vs : List V} (h : Hk a = some (.tup vs)) (r : RpL C Hk xs vs) : Serv C (RT.ItvT C.K a vs.length) Hk xs.reverse := by
  intro i Hk1 H e1 e2
  have h1 : SqT C.K H a vs := sqT (e2 _ _ (e1 _ _ h))
  have hl := r.len
  refine ⟨fun d hd => ?_, fun hi => by rw [List.length_reverse, hl] at hi; exact hi⟩
  have hi : i < xs.length := by
    have := (List.getElem?_eq_some_iff.mp hd).1
    simpa using this
  rw [List.getElem?_reverse hi, hl] at hd
  obtain ⟨v, hv, rv⟩ := r.get hd
  refine ⟨⟨by omega, vs, v, h1, hv⟩, fun z H' hz => ?_⟩
  obtain ⟨rfl, hx⟩ := hz
  have e3 := hx vs h1
  rw [hv] at e3
  cases e3
  exact res_flat (rv.mono e1) e2
section
variable {X : Cx} {y : Y} {a b e : Expr} {es : List Expr} {m : M Tk} {ma : M (List Tk)} {p pos tpos : Pos} {elts : List Expr} {kk : Nat} {tg : Expr}
/-- the arguments' values, all known from now on -/
theorem ai_force {f : List D → Option (List D)} {env : Env} {G : Hp} {σ : L2.St} {Hk : Hp} {R : It → Hp → Prop} {T : List V → Hp → Prop}
    (q : PoI (y.ct X) y.xa y.W G σ Hk (mBind ma (fun ts env => match forceAll ts env with
      | .ok ds e => match f ds with
        | some xs => .ok xs e
        | none => .bad
      | _ => .bad) env) R)
    (k : ∀ ds vs xs Hk' H1, f ds = some xs → Ex Hk' H1 → RpL (y.ct X) Hk' ds vs → (∀ J, Serv (y.ct X) J Hk' xs → R J H1) → T vs H1) : PoA (y.ct X) y.xa y.W G σ Hk (ma env) T := by
  refine ai_bind q fun ts e vs Hk1 H1 k1 r1 rs q1 => ?_
  cases z : forceAll ts e with
  | bad => rw [z] at q1; exact q1.elim
  | ex c ns ds e2 => rw [z] at q1; exact q1.elim
  | ok ds e2 =>
    rw [z] at q1
    dsimp only at q1
    obtain ⟨Hk2, k2, r2, rl⟩ := RVs.force r1 rs z
    cases z2 : f ds with
    | none => rw [z2] at q1; exact q1.elim
    | some xs =>
      rw [z2] at q1
      exact k ds vs xs Hk2 H1 z2 r2.hk rl fun J s => q1 J Hk2 H1 k2 r2 s
def mWalk (f : List D → Option (List D)) (ma : M (List Tk)) : M (List D) := mBind ma fun ts env => match forceAll ts env with
  | .ok ds e => match f ds with
    | some xs => .ok xs e
    | none => .bad
  | _ => .bad
def wEnum : List D → Option (List D)
  | [.lst xs] => some (enumD 0 xs)
  | [.scr ns] => some (enumD 0 (ns.map .int))
  | _ => none
theorem pix_enum (hm : X.mg "enumerate" = none) (ha : PAs X y [e] ma) (hg : Gl X "enumerate" := by rfl) (hs : starEach [e] X.env = [(false, eval e X.env)] := by rfl) :
    PIx X y (.Tuple elts kk tpos) (.Call (.Name "enumerate" p) [e] [] pos) (mWalk wEnum ma) := by
  refine ⟨PI_imp (pi_enum hg hm ha.pa hs) fun σ H R ⟨env, Hk, G, re, q⟩ => ⟨env, Hk, G, re, ai_force q fun ds vs xs Hk' H1 hf ex rl qq => ?_⟩⟩
  unfold wEnum at hf
  split at hf
  · cases hf
    obtain ⟨v, r, rfl, rd, rn⟩ := rl.inv
    have hr : r = [] := List.eq_nil_of_length_eq_zero rn.len.symm
    subst hr
    unfold Rp at rd
    obtain ⟨a, vs', rfl, h1, h2⟩ := rd
    exact ⟨a, vs', rfl, sqL (ex _ _ h1), qq _ (serv_enum (C := y.ct X) (sqL h1) h2)⟩
  · cases hf
    obtain ⟨v, r, rfl, rd, rn⟩ := rl.inv
    have hr : r = [] := List.eq_nil_of_length_eq_zero rn.len.symm
    subst hr
    unfold Rp at rd
    obtain ⟨a, rfl, h1⟩ := rd
    exact ⟨a, _, rfl, ex_l ex h1, qq _ (serv_enum (C := y.ct X) h1 ints_rpl)⟩
  · cases hf
def wZip : List D → Option (List D)
  | [.lst xs, .lst ys] => some (zipD xs ys)
  | [.tup xs, .tup ys] => some (zipD xs ys)
  | _ => none
theorem pix_zip (hm : X.mg "zip" = none) (ha : PAs X y [a, b] ma) (hg : Gl X "zip" := by rfl) (hs : starEach [a, b] X.env = (false, eval a X.env) :: starEach [b] X.env := by rfl) (hpl : (backTo pos (starEach [b] X.env)).any (·.1) = false := by rfl) :
    PIx X y (.Tuple elts kk tpos) (.Call (.Name "zip" p) [a, b] [] pos) (mWalk wZip ma) := by
  refine ⟨PI_imp (RZ.pi_zipA hg hm ha.pa hs hpl) fun σ H R ⟨env, Hk, G, re, q⟩ => ⟨env, Hk, G, re, ai_force q fun ds vs xs Hk' H1 hf ex rl qq => ?_⟩⟩
  unfold wZip at hf
  split at hf
  · cases hf
    obtain ⟨v, r, rfl, rd, rn⟩ := rl.inv
    obtain ⟨v2, r2, rfl, rd2, rn2⟩ := rn.inv
    have hr : r2 = [] := List.eq_nil_of_length_eq_zero rn2.len.symm
    subst hr
    unfold Rp at rd rd2
    obtain ⟨a, vs', rfl, h1, h2⟩ := rd
    obtain ⟨b, ws', rfl, h3, h4⟩ := rd2
    exact ⟨a, b, vs', ws', rfl, .inl ⟨sqL (ex _ _ h1), sqL (ex _ _ h3), qq _ (serv_zipL (C := y.ct X) (sqL h1) h2 (sqL h3) h4)⟩⟩
  · cases hf
    obtain ⟨v, r, rfl, rd, rn⟩ := rl.inv
    obtain ⟨v2, r2, rfl, rd2, rn2⟩ := rn.inv
    have hr : r2 = [] := List.eq_nil_of_length_eq_zero rn2.len.symm
    subst hr
    unfold Rp at rd rd2
    obtain ⟨a, vs', rfl, h1, h2⟩ := rd
    obtain ⟨b, ws', rfl, h3, h4⟩ := rd2
    exact ⟨a, b, vs', ws', rfl, .inr ⟨sqT (ex _ _ h1), sqT (ex _ _ h3), qq _ (serv_zipT (C := y.ct X) h1 h2 h3 h4)⟩⟩
  · cases hf
def mRev (m : M Tk) : M (List D) := mBind m fun t env => match force t env with
  | .ok (.lst xs) e => .ok xs.reverse e
  | .ok (.tup xs) e => .ok xs.reverse e
  | .ok (.scr ns) e => .ok (ns.map .int).reverse e
  | _ => .bad
theorem pix_rev (hm : X.mg "reversed" = none) (h : PX X y e m) (hg : Gl X "reversed" := by rfl) (hs : starEach [e] X.env = (false, eval e X.env) :: starEach [] X.env := by rfl) :
    PIx X y tg (.Call (.Name "reversed" p) [e] [] pos) (mRev m) := by
  refine ⟨PI_imp (RT.pi_revA hg hm h.pe hs) fun σ H R ⟨env, Hk, G, re, q⟩ => ⟨env, Hk, G, re, ?_⟩⟩
  unfold mRev mBind at q
  cases z : m env with
  | ex c ns ds e1 => rw [z] at q; exact q
  | bad => rw [z] at q; exact q
  | ok t e1 =>
    rw [z] at q
    dsimp only at q
    intro v Hk1 H1 k1 r1 rt1
    rcases force_cases t e1 with ⟨d, e2, z2⟩ | z2
    · rw [z2] at q
      obtain ⟨Hk2, k2, r2, rd⟩ := rt1.force r1 z2
      cases d with
      | lst xs =>
        unfold Rp at rd
        obtain ⟨a, vs, rfl, h1, h2⟩ := rd
        exact ⟨a, vs, rfl, .inl ⟨sqL (r2.hk _ _ h1), q _ Hk2 H1 (k1.trans k2) r2 (serv_rev (C := y.ct X) (sqL h1) h2)⟩⟩
      | tup xs =>
        unfold Rp at rd
        obtain ⟨a, vs, rfl, h1, h2⟩ := rd
        exact ⟨a, vs, rfl, .inr ⟨sqT (r2.hk _ _ h1), q _ Hk2 H1 (k1.trans k2) r2 (serv_revT (C := y.ct X) h1 h2)⟩⟩
      | scr ns =>
        unfold Rp at rd
        obtain ⟨a, rfl, h1⟩ := rd
        exact ⟨a, _, rfl, .inl ⟨ex_l r2.hk h1, q _ Hk2 H1 (k1.trans k2) r2 (serv_rev (C := y.ct X) h1 ints_rpl)⟩⟩
      | _ => exact q.elim
    · rw [z2] at q; exact q.elim
/-- range(a, b, -1) -/
def rngDn (lo : Int) (n : Nat) : List D := (List.range n).map fun i => .int (lo + (i : Nat) * (-1))
theorem serv_dn {C : Ct} {Hk : Hp} {lo : Int} {n : Nat} : Serv C (Itc lo (-1) n) Hk (rngDn lo n) := by
  intro i Hk1 H e1 e2
  refine ⟨fun d hd => ?_, fun hi => show n ≤ i by unfold rngDn at hi; simpa using hi⟩
  unfold rngDn at hd
  rw [List.getElem?_map] at hd
  cases z : (List.range n)[i]? with
  | none => rw [z] at hd; cases hd
  | some j =>
    rw [z] at hd
    cases hd
    obtain ⟨hl, hj⟩ := List.getElem?_eq_some_iff.mp z
    rw [List.getElem_range] at hj
    subst hj
    refine ⟨show i < n by simpa using hl, fun x H' hx => ?_⟩
    obtain ⟨rfl, rfl⟩ := hx
    exact res_flat rp_int e2
def wDn : List D → Option (List D)
  | [.int i, .int j, .int c] => if c = -1 ∧ okR i = true ∧ okR j = true then some (rngDn i (i - j).toNat) else none
  | _ => none
theorem pix_rng3 {c : Expr} (hm : X.mg "range" = none) (ha : PAs X y [a, b, c] ma) (hg : Gl X "range" := by rfl) (hs : starEach [a, b, c] X.env = (false, eval a X.env) :: starEach [b, c] X.env := by rfl) (hpl : (backTo pos (starEach [b, c] X.env)).any (·.1) = false := by rfl) :
    PIx X y tg (.Call (.Name "range" p) [a, b, c] [] pos) (mWalk wDn ma) := by
  refine ⟨PI_imp (pi_range3 hg hm ha.pa hs hpl) fun σ H R ⟨env, Hk, G, re, q⟩ => ⟨env, Hk, G, re, ai_force q fun ds vs xs Hk' H1 hf ex rl qq => ?_⟩⟩
  unfold wDn at hf
  split at hf
  · split at hf
    · rename_i ok
      cases hf
      obtain ⟨v, r, rfl, rd, rn⟩ := rl.inv
      obtain ⟨v2, r2, rfl, rd2, rn2⟩ := rn.inv
      obtain ⟨v3, r3, rfl, rd3, rn3⟩ := rn2.inv
      have hr : r3 = [] := List.eq_nil_of_length_eq_zero rn3.len.symm
      subst hr
      unfold Rp at rd rd2 rd3
      subst rd
      subst rd2
      subst rd3
      have o := okR_at ok.2.1
      have o2 := okR_at ok.2.2
      have oc := ok.1
      subst oc
      exact ⟨_, _, _, _, rfl, RgC.neg o.1 o.2 o2.1 o2.2, qq _ serv_dn⟩
    · cases hf
  · cases hf
end
end VM

set_option Elab.async false
set_option linter.all false
set_option maxRecDepth 100000
set_option maxHeartbeats 1000000
/-! VM I: defs with defaults -/
namespace VM
open PySem PySem.Spec PyProof.Rows L2
def mPad (dds : List D) (ma : M (List Tk)) : M (List Tk) := mBind ma fun ts env => .ok (ts ++ dds.map .val) env
/-- a def of the text, called so that the last parameters have the values dds -/
structure CFD (P : Program) (w : World) (K : PySem.W.Frag) (mg : Str → Option Value) (base : Heap) (cm : Nat → Addr) (x : Str) (k : Nat) (ps : List Str) (F : List D → Rf) (dds : List D) : Prop where
  ex : ∃ f fd ds dvs, FnOk P w K mg base (L2.CX P w) k f fd ps (spF ⟨K, cm⟩ ps.length F) ∧ mg x = some (.ref f) ∧ PySem.W.keepIn K (.ref f) = true ∧ Binds K fd ps ds ∧ Vals dvs ds ∧ ∀ H, RpL ⟨K, cm⟩ H dds dvs
theorem rvs_vals {C : Ct} {σ : L2.St} {Hk : Hp} : ∀ {dds : List D} {dvs : List V}, RpL C Hk dds dvs → RVs C σ Hk (dds.map .val) dvs
  | [], dvs, h => by
    obtain rfl : dvs = [] := List.eq_nil_of_length_eq_zero h.len.symm
    exact .nil
  | d :: ds, dvs, h => by
    obtain ⟨v, r, rfl, h1, h2⟩ := h.inv
    exact .cons h1 (rvs_vals h2)
theorem RVs.pad {C : Ct} {σ : L2.St} {Hk : Hp} {dds : List D} {dvs : List V} (h : RpL C Hk dds dvs) : ∀ {ts : List Tk} {vs : List V}, RVs C σ Hk ts vs → RVs C σ Hk (ts ++ dds.map .val) (vs ++ dvs)
  | _, _, .nil => rvs_vals h
  | _, _, .cons h1 h2 => .cons h1 (RVs.pad h h2)
section
variable {X : Cx} {y : Y} {e : Expr} {es : List Expr} {ma : M (List Tk)} {pos p : Pos} {F : List D → Rf} {k kk n : Nat} {ps : List Str} {x : Str} {dds : List D}
theorem mPad_bind {α : Type} {g : List Tk → M α} : mBind (mPad dds ma) g = mBind ma fun ts => g (ts ++ dds.map .val) := by
  funext env
  unfold mPad mBind
  cases ma env <;> rfl
theorem px_callD (h : CFD X.prog X.w X.K X.mg X.base y.cm x k ps F dds) (hr : Room kk X.A) (tk : Takes X y.W) (ha : PAs X y (e :: es) ma) (hn : Many ma n := by repeat first | exact many_nil | refine many_cons ?_) (hps : n + dds.length = ps.length := by rfl) (hk : k ≤ kk := by decide) (hg : Gl X x := by rfl) (hdb : (x == ("__debug__" : Str)) = false := by decide)
    (he : starEach (e :: es) X.env = (false, eval e X.env) :: starEach es X.env := by rfl) (hpl : (backTo pos (starEach es X.env)).any (·.1) = false := by rfl) : PX X y (.Call (.Name x p) (e :: es) [] pos) (mCallF F (mPad dds ma)) := by
  obtain ⟨f, fd, ds, dvs, h1, h2, h3, h4, h5, h6⟩ := h.ex
  refine ⟨PE_imp (pe_callSD h1 (hr.mono hk) hg h2 h3 h4 h5 (fun σ => passAt tk σ) ha.pa hdb he hpl) fun σ H Q ⟨env, Hk, G, re, q⟩ => ⟨env, Hk, G, re, ?_⟩⟩
  unfold mCallF at q
  rw [mPad_bind] at q
  exact pa_bindN hn q fun ts e vs Hk' H1 k1 r1 rs hl q1 => callF_go r1 (RVs.pad (h6 Hk') rs) (by rw [List.length_append, ← rs.len, hl, ← (h6 Hk').len]; exact hps) q1
end
section
variable {P : Program} {w : World} {K : PySem.W.Frag} {mg : Str → Option Value} {base : Heap} {cm : Nat → Addr}
theorem fn_okD {x qual : Str} {st : Stmt} {dvs : List V} {kws : List (Str × V)} {f : Addr} {fd : FuncData} {N ps : List Str} {k : Nat} {body : M Fl} (F : FunD K x qual (defArgs st) (defBody st) (defScope st) dvs kws f fd) (S : FnScope N ps (defScope st)) (hl : ps.length ≤ N.length)
    (hb : ∀ (cdv : Value) (A : Around) (outer : List PySem.Env) (s : Shared) (H : Hp) (E : XK), Room k (A.deeper (envOfC qual (defScope st) s.heap.objs.size f cdv)) →
      PSSx (cxOf (L2.CX P w) P w K mg base N qual (defScope st) f cdv A outer s H E) (yF cm E) (defBody st) body) :
    FnOk P w K mg base (L2.CX P w) (k + 1) f fd ps (spF ⟨K, cm⟩ ps.length (mkF N.length body)) := by
  refine F.ok S (fun vs H Q E h => h.1) fun cdv A outer s H vs Q E hr h => ⟨_, (hb cdv A outer s H E hr).pss, ?_⟩
  obtain ⟨hn, ds, Hk, e, rl, q⟩ := h
  refine ⟨entry N.length ds, Hk, H, entry_re e rl (by omega), ?_⟩
  unfold mkF at q
  cases z : body (entry N.length ds) with
  | bad => rw [z] at q; exact q.elim
  | ex c ns xs e1 =>
    rw [z] at q
    exact fun cls dd σ' Hk' H' k' r' rx => q cls dd Hk' H' k' r'.hk r'.g rx
  | ok fl e1 =>
    rw [z] at q
    cases fl with
    | nx => exact fun σ' Hk' H' k' r' => q .non Hk' H' k' r'.hk r'.g (rp_non (C := ⟨K, cm⟩) (H := Hk'))
    | bk => exact q.elim
    | ct => exact q.elim
    | rt t =>
      intro v σ' Hk' H' k' r' rt
      unfold fin at q
      dsimp only at q
      cases z2 : outTk t e1 with
      | none => rw [z2] at q; exact q.elim
      | some o =>
        obtain ⟨nw, d⟩ := o
        rw [z2] at q
        exact q v Hk' H' k' r'.hk r'.g (outTk_bk r' rt z2)
end
theorem funD_mk {K : PySem.W.Frag} {x qual : Str} {st : Stmt} {f T : Addr} {oc tc : Value} {od td an : Option Addr} {osl tsl : Array (Option Value)} {kV doc pm cdv ct : Value} {dvs : List V} {its : List Value} {n : Nat}
    (l : K.lookup f = some ⟨oc, od, .func (PySem.W.fnOf x qual (defArgs st) (defBody st) (defScope st) (.ref T) kV doc pm an cdv ct), osl⟩) (c : PySem.W.codeIn K cdv qual = true) (k : PySem.W.keepIn K (.ref f) = true)
    (t : K.lookup T = some ⟨tc, td, .seq its.toArray n, tsl⟩) (ne : dvs ≠ []) (r : Vals dvs its) : FunD K x qual (defArgs st) (defBody st) (defScope st) dvs [] f (PySem.W.fnOf x qual (defArgs st) (defBody st) (defScope st) (.ref T) kV doc pm an cdv ct) :=
  ⟨⟨oc, od, _, kV, doc, pm, an, cdv, ct, osl, rfl, l, c, .inr ⟨ne, T, _, its, n, rfl, t, rfl, r⟩, .inl rfl⟩, k⟩
/-- the rest of the call's promise: Binds with the values behind the first j defaults -/
theorem cfd_mk {P : Program} {w : World} {K : PySem.W.Frag} {mg : Str → Option Value} {base : Heap} {cm : Nat → Addr} {x : Str} {k : Nat} {ps : List Str} {F : List D → Rf} {dds : List D} {f : Addr} {fd : FuncData} {dvs : List V} (h : FnOk P w K mg base (L2.CX P w) k f fd ps (spF ⟨K, cm⟩ ps.length F)) (hm : mg x = some (.ref f))
    (hk : PySem.W.keepIn K (.ref f) = true) (hb : ∃ ds, Vals dvs ds ∧ Binds K fd ps ds) (hd : ∀ H, RpL ⟨K, cm⟩ H dds dvs) : CFD P w K mg base cm x k ps F dds :=
  let ⟨ds, h1, h2⟩ := hb
  ⟨f, fd, ds, dvs, h, hm, hk, h2, h1, hd⟩
end VM

set_option Elab.async false
set_option linter.all false
set_option maxRecDepth 100000
set_option maxHeartbeats 1000000
/-! VM J: what the top must hold of exception classes, as checks -/
namespace VM
open PySem PySem.Spec PyProof.Rows L2
theorem ba {a b : Bool} (h : (a && b) = true) : a = true ∧ b = true := Bool.and_eq_true_iff.mp h
/-- a class over ValueError with a dict, as it lies in K -/
def oexB (K : PySem.W.Frag) (C : Addr) : Bool := match K.lookup C with
  | some ⟨.type "type", _, .cls cd, sl⟩ => (match cd.mro, sl.toList with
    | .ref C' :: bm, [_, _, _, _, some (.builtin n), _] => decide (C' = C) && (decide (n = "ValueError.__new__") && (!cd.hasDel && (cd.hasDict && PySem.HandSPX.refsVE bm)))
    | _, _ => false)
  | _ => false
theorem oexB_ok {K : PySem.W.Frag} {C : Addr} (q : oexB K C = true) : ∃ nm q N bs bm sn sub ab col dd k0 k1 k2 k3 k5, K.lookup C = some (excClassObj nm q C N bs bm true sn sub ab col dd k0 k1 k2 k3 k5 "ValueError.__new__") ∧ PySem.HandSPX.refsVE bm = true := by
  unfold oexB at q
  split at q
  · rename_i dd cd sl ho
    split at q
    · rename_i C' bm k0 k1 k2 k3 n k5 hm hs
      obtain ⟨q1, q⟩ := ba q
      obtain ⟨q2, q⟩ := ba q
      obtain ⟨q3, q⟩ := ba q
      obtain ⟨q4, q5⟩ := ba q
      have e1 := of_decide_eq_true q1
      have e2 := of_decide_eq_true q2
      subst e1
      subst e2
      obtain ⟨nm, bs, mro, ns, qn, hd, sn, sub, ab, col, del⟩ := cd
      dsimp only at hm q3 q4
      subst hm
      have hdel : del = false := by simpa using q3
      subst hdel
      subst q4
      have hsl : sl = #[k0, k1, k2, k3, some (.builtin "ValueError.__new__"), k5] := by
        obtain ⟨l⟩ := sl
        simp only at hs
        rw [hs]
      subst hsl
      exact ⟨nm, qn, ns, bs, bm, sn, sub, ab, col, dd, k0, k1, k2, k3, k5, ho, q5⟩
    · cases q
  · cases q
/-- all that a class of exceptions needs: its own fields are nowhere in the class -/
def ecB (K : PySem.W.Frag) (C fI : Addr) (fs : List Str) : Bool := oexB K C && (decide (PySem.W.findIn K (.ref C) "__setattr__" = some (some (.builtin "object.__setattr__"))) && (decide (PySem.W.subIn K (.ref C) (.type "BaseException") = some true) && (decide (PySem.W.typeIn K (.ref C) = some (.type "type")) && (PySem.W.keepIn K (.ref C) &&
  (decide (PySem.W.findIn K (.ref C) "__init__" = some (some (.ref fI))) && (decide (PySem.W.typeIn K (.ref fI) = some (.type "function")) && (xfB K C && fs.all fun f => decide (PySem.W.findIn K (.ref C) f = some none))))))))
structure EcF (K : PySem.W.Frag) (C fI : Addr) (fs : List Str) : Prop where
  o : OexC K C
  i : PySem.W.findIn K (.ref C) "__init__" = some (some (.ref fI))
  t : PySem.W.typeIn K (.ref fI) = some (.type "function")
  x : XfC K C
  n : ∀ f ∈ fs, PySem.W.findIn K (.ref C) f = some none
theorem ecB_ok {K : PySem.W.Frag} {C fI : Addr} {fs : List Str} (h : ecB K C fI fs = true) : EcF K C fI fs := by
  obtain ⟨h1, h⟩ := ba h
  obtain ⟨h2, h⟩ := ba h
  obtain ⟨h3, h⟩ := ba h
  obtain ⟨h4, h⟩ := ba h
  obtain ⟨h5, h⟩ := ba h
  obtain ⟨h6, h⟩ := ba h
  obtain ⟨h7, h⟩ := ba h
  obtain ⟨h8, h9⟩ := ba h
  exact ⟨⟨oexB_ok h1, of_decide_eq_true h2, of_decide_eq_true h3, of_decide_eq_true h4, h5⟩, of_decide_eq_true h6, of_decide_eq_true h7, xfB_ok h8, fun f hf => of_decide_eq_true (List.all_eq_true.mp h9 f hf)⟩
def rbB (K : PySem.W.Frag) (R : Addr) : Bool := decide (PySem.W.specialIn K (.ref R) "__getattribute__" = some (some (.builtin "type.__getattribute__"))) && PySem.W.readsIn K R (.type "type")
theorem rbB_ok {K : PySem.W.Frag} {R : Addr} (h : rbB K R = true) (h2 : PySem.W.findCls K (.ref R) (.type "type") "__init__" = some (.val (.builtin "ValueError.__init__"))) : RB K R := by
  obtain ⟨h1, h3⟩ := ba h
  exact ⟨of_decide_eq_true h1, h3, h2⟩
/-- which clause takes which class, as a table -/
def eqK : D → D → Bool
  | .cl a, .cl b => a == b
  | .ty a, .ty b => a == b
  | _, _ => false
theorem eqK_ok : ∀ {a b : D}, eqK a b = true → a = b
  | .cl a, .cl b, h => by rw [show a = b from eq_of_beq h]
  | .ty a, .ty b, h => by rw [show a = b from eq_of_beq h]
  | .cl _, .non, h | .cl _, .bl _, h | .cl _, .int _, h | .cl _, .str _, h | .cl _, .scr _, h | .cl _, .ty _, h | .cl _, .lst _, h | .cl _, .tup _, h | .cl _, .ins _ _ _, h => by cases h
  | .ty _, .non, h | .ty _, .bl _, h | .ty _, .int _, h | .ty _, .str _, h | .ty _, .scr _, h | .ty _, .cl _, h | .ty _, .lst _, h | .ty _, .tup _, h | .ty _, .ins _ _ _, h => by cases h
  | .non, _, h | .bl _, _, h | .int _, _, h | .str _, _, h | .scr _, _, h | .lst _, _, h | .tup _, _, h | .ins _ _ _, _, h => by cases h
def subOf (tab : List (Nat × D × Bool)) (c : Nat) (k : D) : Option Bool := (tab.find? fun q => q.1 == c && eqK q.2.1 k).map (·.2.2)
theorem subOf_ok {K : PySem.W.Frag} {cm : Nat → Addr} {tab : List (Nat × D × Bool)} (h : ∀ q ∈ tab, ∀ cv, valT cm q.2.1 = some cv → PySem.W.exmOne K (.ref (cm q.1)) cv = some q.2.2) : SubX K cm (subOf tab) := ⟨fun c k b cv h1 h2 => by
  unfold subOf at h1
  cases z : tab.find? fun q => q.1 == c && eqK q.2.1 k with
  | none => rw [z] at h1; cases h1
  | some q =>
    rw [z] at h1
    cases h1
    have hp := List.find?_some z
    obtain ⟨e1, e2⟩ := ba hp
    have e1 : q.1 = c := eq_of_beq e1
    have e2 := eqK_ok e2
    subst e1
    subst e2
    exact h q (List.mem_of_find?_eq_some z) cv h2⟩
/-- a statement of a class's body -/
def memS (s : Stmt) (j : Nat) : Stmt := match s with
  | .ClassDef _ _ _ b _ _ _ _ _ _ _ => b.getD j (.Pass ⟨0, 0, 0, 0⟩)
  | _ => .Pass ⟨0, 0, 0, 0⟩
theorem fnOk_imp {P : Program} {w : World} {K : PySem.W.Frag} {mg : Str → Option Value} {base : Heap} {CX : CXT} {k : Nat} {f : Addr} {fd : FuncData} {ps : List Str} {sp sp' : Sp} (h : FnOk P w K mg base CX k f fd ps sp) (g : ∀ vs H Q E, sp' vs H Q E → sp vs H Q E) : FnOk P w K mg base CX k f fd ps sp' :=
  ⟨fun vs H Q E q => h.len vs H Q E (g vs H Q E q), fun A outer s H args us vs Q E hr e0 hb r q => h.run A outer s H args us vs Q E hr e0 hb r (g vs H Q E q)⟩
/-- the law's promise, wherever the classes stand -/
def spL (K : PySem.W.Frag) (F : List D → Rf) : Sp := fun vs H Q E => ∀ cm, spF ⟨K, cm⟩ 1 F vs H Q E
theorem law_spL {K : PySem.W.Frag} {F : List D → Rf} {H : Hp} {a : Addr} {ns : List Int} (hS : SqL K H a (ns.map V.int)) (h : ∃ p, F [.scr ns] = .ok false (.bl true) p) : spL K F [.ref a] H (fun v _ => v = .bl true) (fun _ _ _ => False) := fun cm => law_sp (cm := cm) hS h
section
variable {X : Cx} {y : Y} {a b : Expr} {ma : M (List Tk)} {pos p : Pos}
theorem px_max2 (hc : X.calm = true) (hm : X.mg "max" = none) (ha : PAs X y [a, b] ma) (hg : Gl X "max" := by rfl) (he : starEach [a, b] X.env = (false, eval a X.env) :: starEach [b] X.env := by rfl) (hpl : (backTo pos (starEach [b] X.env)).any (·.1) = false := by rfl) : PX X y (.Call (.Name "max" p) [a, b] [] pos) (mCall (fn2 dMax) ma) := px_blt (call_max2 hc) max_ok hg hm (by decide +kernel) ha (he := he) (hpl := hpl)
theorem px_min2 (hc : X.calm = true) (hm : X.mg "min" = none) (ha : PAs X y [a, b] ma) (hg : Gl X "min" := by rfl) (he : starEach [a, b] X.env = (false, eval a X.env) :: starEach [b] X.env := by rfl) (hpl : (backTo pos (starEach [b] X.env)).any (·.1) = false := by rfl) : PX X y (.Call (.Name "min" p) [a, b] [] pos) (mCall (fn2 dMin) ma) := px_blt (call_min2 hc) min_ok hg hm (by decide +kernel) ha (he := he) (hpl := hpl)
/-- a global that is a whole number -/
theorem px_glob {i : Int} {x : Str} (hm : ∃ t, X.mg x = some (.int i t)) (hg : Gl X x) (hd : (x == ("__debug__" : Str)) = false := by decide) : PX X y (.Name x pos) (mC (.int i)) := by
  obtain ⟨t, hm⟩ := hm
  refine px_c (v := .int i) ⟨fun pins s σ H Q I h => ld_glob I hg hm ⟨.int i, H, I, ⟨_, rfl⟩, h⟩ hd⟩ fun _ => rp_int
end
theorem cf_mk {P : Program} {w : World} {K : PySem.W.Frag} {mg : Str → Option Value} {base : Heap} {cm : Nat → Addr} {x : Str} {k : Nat} {ps : List Str} {F : List D → Rf} {f : Addr} {fd : FuncData} (h : FnOk P w K mg base (L2.CX P w) k f fd ps (spF ⟨K, cm⟩ ps.length F)) (hm : mg x = some (.ref f))
    (hk : PySem.W.keepIn K (.ref f) = true) (hb : ∃ ds, Vals [] ds ∧ Binds K fd ps ds) : CF P w K mg base cm x k ps F := by
  obtain ⟨ds, h1, h2⟩ := hb
  cases h1
  exact ⟨f, fd, h, hm, hk, h2⟩
end VM

set_option Elab.async false
set_option linter.all false
set_option maxRecDepth 100000
set_option maxHeartbeats 1000000
/-! VM K: equality of plain data with itself; steps of statements; more step lemmas -/
namespace VM
open PySem PySem.Spec PyProof.Rows L2
theorem cEq_self {d : D} (h : d.pl 64 = true) : cEq d d = some true := by
  unfold cEq
  rw [if_pos ⟨h, h⟩]
  unfold D.eq
  rw [PySem.SeqAt.eqv_refl _ (depth_le 64 d h).1]
theorem cNe_self {d : D} (h : d.pl 64 = true) : cNe d d = some false := by
  unfold cNe
  rw [if_pos ⟨h, h⟩]
  unfold D.eq
  rw [PySem.SeqAt.eqv_refl _ (depth_le 64 d h).1]
  rfl
theorem pl_str {n : Nat} {s : Str} : D.pl n (.str s) = PyData.strOk s := by cases n <;> rfl
theorem pl_lst {n : Nat} {xs : List D} : D.pl (n + 1) (.lst xs) = xs.all (D.pl n) := rfl
theorem pl_tup {n : Nat} {xs : List D} : D.pl (n + 1) (.tup xs) = xs.all (D.pl n) := rfl
theorem pl_ints {n : Nat} {ns : List Int} : (ns.map D.int).all (D.pl n) = true := by
  rw [List.all_map, List.all_eq_true]
  intro x _
  exact pl_int
theorem seq_ok {m k : M Fl} {env e : Env} (h : m env = .ok .nx e) : mSeq m k env = k e := by rw [a_seq, h]
theorem seq_rt {m k : M Fl} {env e : Env} {t : Tk} (h : m env = .ok (.rt t) e) : mSeq m k env = .ok (.rt t) e := by rw [a_seq, h]
theorem seq_ex {m k : M Fl} {env e : Env} {c : Nat} {ns : List Str} {ds : List D} (h : m env = .ex c ns ds e) : mSeq m k env = .ex c ns ds e := by rw [a_seq, h]
section
variable {env e : Env} {ma : M (List Tk)}
theorem a_try_ok {sub : Nat → D → Option Bool} {body : M Fl} {hs : List (D × Option Nat × M Fl)} : mTry sub body hs env = match body env with
  | .ex c ns ds e => mHandle sub c ns ds hs e
  | r => r := (rfl)
theorem a_raise0 {c : Nat} : mRaise0 c env = .ex c [] [] env := (rfl)
theorem a_raise {c : Nat} {fs : List Str} : mRaise c fs ma env = bindR (ma env) fun ts env => match forceAll ts env with
  | .ok ds e => .ex c fs.reverse ds.reverse e
  | _ => .bad := (rfl)
theorem a_h0 {sub : Nat → D → Option Bool} {c : Nat} {ns : List Str} {ds : List D} : mHandle sub c ns ds [] e = .ex c ns ds e := (rfl)
theorem a_h1 {sub : Nat → D → Option Bool} {c : Nat} {ns : List Str} {ds : List D} {k : D} {oi : Option Nat} {m : M Fl} {r : List (D × Option Nat × M Fl)} : mHandle sub c ns ds ((k, oi, m) :: r) e = match sub c k with
    | some true => suiteEnd oi (m (enter oi c ns ds e))
    | some false => mHandle sub c ns ds r e
    | none => .bad := (rfl)
theorem a_en0 {c : Nat} {ns : List Str} {ds : List D} : enter none c ns ds env = env := (rfl)
theorem a_en1 {c : Nat} {ns : List Str} {ds : List D} {i : Nat} : enter (some i) c ns ds env = env.set i (.xv c ns ds) := (rfl)
theorem a_se_nx {oi : Option Nat} : suiteEnd oi (.ok .nx e) = .ok .nx (leave oi e) := (rfl)
theorem a_se_rt {oi : Option Nat} {t : Tk} : suiteEnd oi (.ok (.rt t) e) = .ok (.rt t) (unX e) := (rfl)
theorem a_lv0 : leave none e = unX e := (rfl)
theorem a_lv1 {i : Nat} : leave (some i) e = (unX e).set i .no := (rfl)
theorem a_un0 : unX [] = [] := (rfl)
theorem a_un1 {s : S} : unX (s :: e) = clearX s :: unX e := (rfl)
theorem a_cx0 : clearX .no = .no := (rfl)
theorem a_cx1 {d : D} : clearX (.sh d) = .sh d := (rfl)
theorem a_cx2 {d : D} : clearX (.ow d) = .ow d := (rfl)
theorem a_cx3 {c : Nat} {ns : List Str} {ds : List D} : clearX (.xv c ns ds) = .no := (rfl)
theorem a_xf {cs : List Nat} {k : Nat} {n : Str} : mXf cs k n env = match env[k]? with
  | some (.xv c ns ds) => if c ∈ cs then match (ns.zip ds).lookup n with
    | some d => .ok (.val d) env
    | none => .bad
  else .bad
  | _ => .bad := (rfl)
theorem a_pad {dds : List D} : mPad dds ma env = bindR (ma env) fun ts env => .ok (ts ++ dds.map .val) env := (rfl)
theorem a_walk {f : List D → Option (List D)} : mWalk f ma env = bindR (ma env) fun ts env => match forceAll ts env with
  | .ok ds e => match f ds with
    | some xs => .ok xs e
    | none => .bad
  | _ => .bad := (rfl)
theorem a_rev {m : M Tk} : mRev m env = bindR (m env) fun t env => match force t env with
  | .ok (.lst xs) e => .ok xs.reverse e
  | .ok (.tup xs) e => .ok xs.reverse e
  | .ok (.scr ns) e => .ok (ns.map .int).reverse e
  | _ => .bad := (rfl)
theorem w_enum {xs : List D} : wEnum [.lst xs] = some (enumD 0 xs) := (rfl)
theorem w_zipL {xs ys : List D} : wZip [.lst xs, .lst ys] = some (zipD xs ys) := (rfl)
theorem w_zipT {xs ys : List D} : wZip [.tup xs, .tup ys] = some (zipD xs ys) := (rfl)
theorem e_max {i j : Int} : dMax (.int i) (.int j) = some (.val (.int (if j > i then j else i))) := (rfl)
theorem e_min {i j : Int} : dMin (.int i) (.int j) = some (.val (.int (if j < i then j else i))) := (rfl)
theorem e_shr {i j : Int} (h : 0 ≤ j) : dShr (.int i) (.int j) = some (.val (.int (i / 2 ^ j.toNat))) := if_pos (decide_eq_true h)
theorem e_and {i j : Int} : dAnd (.int i) (.int j) = some (.val (.int (Builtin.bitAnd i j))) := (rfl)
theorem e_str {i : Int} (h : i.natAbs.log2 < 1920) : dStr (.int i) = some (.val (.str (toString i))) := if_pos h
end
theorem for_rng1 {n : Int} {g : D → Env → Option Env} {junk : List Nat} {body : M Fl} {env : Env} {m : M Tk} {e : Env} {i : Int} (h1 : m env = .ok (.val (.int i)) e) (h : okR i = true) : mFor (mRng (mCons m mNil)) g junk body env = mLoop g junk body (rngD 0 i.toNat) e := by
  rw [a_for, a_rng, a_cons, h1]
  simp only [bindR_ok, t_val, a_nil, a_la1, l_val, a_la0, h, if_true]
/-! ### sum of a list or a tuple -/
section
variable {X : Cx} {y : Y} {e : Expr} {ma : M (List Tk)} {pos p : Pos}
def rSumT (K : PySem.W.Frag) : List V → Hp → VK → Prop := fun vs H Q => ∃ (a : Addr) (ns : List Int), vs = [V.ref a] ∧ SqT K H a (ns.map V.int) ∧ Q (.int ns.sum) H
theorem cr_sumT (hc : X.calm = true) : CallR X (.builtin "sum") (rSumT X.K) := by
  intro pins s σ H vs us Q I r h
  obtain ⟨a, ns, rfl, hs, q⟩ := h
  obtain ⟨its, rv, hl, _⟩ := I.tuple hs
  rw [Vals.ref1 r]
  have hi := rv.ints
  obtain ⟨xs, hx⟩ := hi.allInts.items
  have hn : numsOf its.toArray.toList = ns := by rw [show its.toArray.toList = its from rfl, hi.numsOf]
  rw [hx] at hl hn
  rw [nums_intItems] at hn
  refine PySem.W.ktm_sumG (I.ok.hd hc) hl fun h' tk t' hk => ?_
  refine ⟨.int _, H, I.kept hk, ⟨_, rfl⟩, ?_⟩
  rw [preSum_eq, List.take_of_length_le (by simp), hn]
  exact q
def dSumA : D → Option Tk
  | .lst xs => (toInts xs).map fun ns => .val (.int ns.sum)
  | .tup xs => (toInts xs).map fun ns => .val (.int ns.sum)
  | _ => none
theorem sumA_ok : OpN X y (fn1 dSumA) (fun vs H Q => rSum X.K vs H Q ∨ rSumT X.K vs H Q) := op1N (by
  intro Hk H d v t Q e h pa q
  cases d with
  | lst xs =>
    simp only [dSumA] at h
    cases z : toInts xs with
    | none => rw [z] at h; cases h
    | some ns =>
      rw [z] at h
      cases h
      obtain ⟨a, vs, rfl, h1, h2⟩ := pa.lst e
      obtain rfl := toInts_eq z
      rw [rpl_ints h2] at h1
      exact .inl ⟨a, ns, rfl, sqL h1, q _ _ (res_flat rp_int e)⟩
  | tup xs =>
    simp only [dSumA] at h
    cases z : toInts xs with
    | none => rw [z] at h; cases h
    | some ns =>
      rw [z] at h
      cases h
      obtain ⟨a, vs, rfl, h1, h2, _⟩ := pa.tup e
      obtain rfl := toInts_eq z
      rw [rpl_ints h2] at h1
      exact .inr ⟨a, ns, rfl, sqT h1, q _ _ (res_flat rp_int e)⟩
  | _ => cases h)
theorem px_sumA (hc : X.calm = true) (hm : X.mg "sum" = none) (ha : PAs X y [e] ma) (hg : Gl X "sum" := by rfl) (he : starEach [e] X.env = (false, eval e X.env) :: starEach [] X.env := by rfl) : PX X y (.Call (.Name "sum" p) [e] [] pos) (mCall (fn1 dSumA) ma) := px_blt (callR_or (cr_sum hc) (cr_sumT hc)) sumA_ok hg hm (by decide +kernel) ha (he := he) (hpl := by rfl)
theorem e_sumA {ns : List Int} : dSumA (.lst (ns.map .int)) = some (.val (.int ns.sum)) := by
  show (toInts (ns.map .int)).map _ = _
  rw [toInts_map]; rfl
theorem e_sumAT {ns : List Int} : dSumA (.tup (ns.map .int)) = some (.val (.int ns.sum)) := by
  show (toInts (ns.map .int)).map _ = _
  rw [toInts_map]; rfl
end
end VM

set_option Elab.async false
set_option linter.all false
set_option maxRecDepth 100000
set_option maxHeartbeats 1000000
/-! VM L: a, b = x, y -/
namespace VM
open PySem PySem.Spec PyProof.Rows L2
section
variable {X : Cx} {y : Y} {a b : Expr} {ma : M (List Tk)}
def mPar (i j : Nat) (ma : M (List Tk)) : M Fl := mBind ma fun ts env => match forceAll ts env with
  | .ok [d1, d2] e => .ok .nx ((e.set i (.sh d1)).set j (.sh d2))
  | _ => .bad
theorem psx_par {i j : Nat} {x z : Str} {px py pt : Pos} {kt k2 : Nat} {pt2 pos : Pos} (hc : X.calm = true) (hN : X.N.Nodup) (ha : PAs X y [a, b] ma) (hi : X.N[i]? = some x := by rfl) (hj : X.N[j]? = some z := by rfl) (hij : i ≠ j := by decide)
    (hx : X.env.scope.names.lookup x = some .local := by rfl) (hy : X.env.scope.names.lookup z = some .local := by rfl)
    (hw : swappedStores [.Tuple [.Name x px, .Name z py] kt pt] (.Tuple [a, b] k2 pt2) X.env = pure (some [x, z]) := by rfl)
    (hs : swapsWithSole [.Tuple [.Name x px, .Name z py] kt pt] (.Tuple [a, b] k2 pt2) pos.line X.env = pure false := by rfl) :
    PSx X y (.Assign [.Tuple [.Name x px, .Name z py] kt pt] (.Tuple [a, b] k2 pt2) pos) (mPar i j ma) := by
  refine ⟨PS_imp (ps_par hc hN hi hj hij hx hy ha.pa hw hs) fun D σ H ⟨env, Hk, G, re, q⟩ => ⟨env, Hk, G, re, as_bind q fun ts e1 vs Hk' H1 _ k1 r1 rs q1 => ?_⟩⟩
  cases z2 : forceAll ts e1 with
  | bad => rw [z2] at q1; exact q1.elim
  | ex _ _ _ _ => rw [z2] at q1; exact q1.elim
  | ok ds e2 =>
    rw [z2] at q1
    obtain ⟨Hk2, k2, r2, rl⟩ := RVs.force r1 rs z2
    match ds, rl, q1 with
    | [d1, d2], rl, q1 =>
      obtain ⟨v, r, rfl, h1, rn⟩ := rl.inv
      obtain ⟨w, r', rfl, h2, rn2⟩ := rn.inv
      obtain rfl : r' = [] := List.eq_nil_of_length_eq_zero rn2.len.symm
      exact ⟨v, w, rfl, q1 _ Hk2 H1 k2 ((r2.setSh h1).setSh h2)⟩
    | [], _, q1 => exact q1.elim
    | [_], _, q1 => exact q1.elim
    | _ :: _ :: _ :: _, _, q1 => exact q1.elim
end
theorem a_par {i j : Nat} {ma : M (List Tk)} {env : Env} : mPar i j ma env = bindR (ma env) fun ts env => match forceAll ts env with
  | .ok [d1, d2] e => .ok .nx ((e.set i (.sh d1)).set j (.sh d2))
  | _ => .bad := (rfl)
/-! ### a <= b < c as a test -/
def mChainB (f g : D → D → Option Bool) (m1 m2 m3 : M Tk) : M Bool := mBind m1 fun t1 => mBind m2 fun t2 env => match look t1.settle env, look t2 env with
  | some a, some b => match f a b with
    | some true => mBind m3 (fun t3 e3 => match look t2.settle e3, look t3 e3 with
      | some b', some c => mOf (g b' c) e3
      | _, _ => .bad) env
    | some false => .ok false env
    | none => .bad
  | _, _ => .bad
section
variable {X : Cx} {y : Y} {a b c : Expr} {m1 m2 m3 : M Tk} {pos : Pos}
theorem pb_chain {f g : D → D → Option Bool} {r r' : R2} {op op' : CmpOp} (ho : OpR X (compareOp op) r) (ho' : OpR X (compareOp op') r') (of : ∀ Hk H a b v w k Q, Ex Hk H → f a b = some k → Pk (y.ct X) Hk H a v → Pk (y.ct X) Hk H b w → (Q (.bl k) H) → r v w H Q) (og : Op2 X y (lift g) r')
    (ha : PX X y a m1) (hb : PX X y b m2) (hc : PX X y c m3) (hm : lastMarks [op, op'] [b, c] = false := by with_unfolding_all rfl) : PB X y (.Compare a [op, op'] [b, c] pos) (mChainB f g m1 m2 m3) := by
  refine ⟨PT_imp (pt_chain ho ho' ha.pe hb.pe hc.pe hm) fun σ H Q ⟨env, Hk, G, re, q⟩ => ⟨env, Hk, G, re, tb_bind q fun t1 e1 v Hk1 H1 k1 r1 rt1 q1 => ?_⟩⟩
  obtain ⟨Hk1', k1', r1, rv1⟩ := rt1.settle r1
  refine ⟨e1, Hk1', G, r1, tb_bind (q1.kx k1') fun t2 e2 w Hk2 H2 k2 r2 rt2 q2 => ?_⟩
  have rt1 := (rv1.kx k2).rt (G := G) (env := e2) (H := H2)
  obtain ⟨Hk2', k2', r2', rv2⟩ := rt2.settle r2
  cases z1 : look t1.settle e2 with
  | none => rw [z1] at q2; exact q2.elim
  | some d1 =>
    cases z2 : look t2 e2 with
    | none => rw [z1, z2] at q2; exact q2.elim
    | some d2 =>
      rw [z1, z2] at q2
      dsimp only at q2
      cases z3 : f d1 d2 with
      | none => rw [z3] at q2; exact q2.elim
      | some k =>
        rw [z3] at q2
        refine of Hk2 H2 d1 d2 v w k _ r2.hk z3 (rt1.look r2 z1) (rt2.look r2 z2) ⟨k, rfl, ?_⟩
        cases k with
        | false => exact ⟨false, rfl, q2 Hk2 H2 (Kx.refl _ _) r2⟩
        | true =>
          rw [if_pos rfl]
          refine ⟨e2, Hk2', G, r2', tb_bind (q2.kx k2') fun t3 e3 u Hk3 H3 k3 r3 rt3 q3 => ?_⟩
          have rt2' := (rv2.kx k3).rt (G := G) (env := e3) (H := H3)
          cases z4 : look t2.settle e3 with
          | none => rw [z4] at q3; exact q3.elim
          | some b' =>
            cases z5 : look t3 e3 with
            | none => rw [z4, z5] at q3; exact q3.elim
            | some cc =>
              rw [z4, z5] at q3
              dsimp only at q3
              unfold mOf at q3
              cases z6 : g b' cc with
              | none => rw [z6] at q3; exact q3.elim
              | some k2 =>
                rw [z6] at q3
                refine og Hk3 H3 b' cc w u (.val (.bl k2)) _ r3.hk (by unfold lift; rw [z6]) (rt2'.look r3 z4) (rt3.look r3 z5) fun z H' hz => ?_
                obtain ⟨Hk', k1, r1, rt⟩ := r3.res hz
                have rt : Rp (y.ct X) Hk' (.bl k2) z := rt
                unfold Rp at rt
                exact ⟨k2, rt, q3 Hk' H' k1 r1⟩
theorem pb_lele (ha : PX X y a m1) (hb : PX X y b m2) (hc : PX X y c m3) (hm : lastMarks [.LtE, .LtE] [b, c] = false := by with_unfolding_all rfl) : PB X y (.Compare a [.LtE, .LtE] [b, c] pos) (mChainB cLe cLe m1 m2 m3) := pb_chain op_le op_le (cI_one cLe_i) cI_ok ha hb hc hm
theorem pb_lelt (ha : PX X y a m1) (hb : PX X y b m2) (hc : PX X y c m3) (hm : lastMarks [.LtE, .Lt] [b, c] = false := by with_unfolding_all rfl) : PB X y (.Compare a [.LtE, .Lt] [b, c] pos) (mChainB cLe cLt m1 m2 m3) := pb_chain op_le op_lt (cI_one cLe_i) cI_ok ha hb hc hm
theorem pb_ltle (ha : PX X y a m1) (hb : PX X y b m2) (hc : PX X y c m3) (hm : lastMarks [.Lt, .LtE] [b, c] = false := by with_unfolding_all rfl) : PB X y (.Compare a [.Lt, .LtE] [b, c] pos) (mChainB cLt cLe m1 m2 m3) := pb_chain op_lt op_le (cI_one cLt_i) cI_ok ha hb hc hm
theorem pb_ltlt (ha : PX X y a m1) (hb : PX X y b m2) (hc : PX X y c m3) (hm : lastMarks [.Lt, .Lt] [b, c] = false := by with_unfolding_all rfl) : PB X y (.Compare a [.Lt, .Lt] [b, c] pos) (mChainB cLt cLt m1 m2 m3) := pb_chain op_lt op_lt (cI_one cLt_i) cI_ok ha hb hc hm
end
theorem a_chainB {f g : D → D → Option Bool} {m1 m2 m3 : M Tk} {env : Env} : mChainB f g m1 m2 m3 env = bindR (m1 env) fun t1 e => bindR (m2 e) fun t2 env => match look t1.settle env, look t2 env with
  | some a, some b => match f a b with
    | some true => bindR (m3 env) fun t3 e3 => match look t2.settle e3, look t3 e3 with
      | some b', some c => mOf (g b' c) e3
      | _, _ => .bad
    | some false => .ok false env
    | none => .bad
  | _, _ => .bad := (rfl)
theorem a_chain {f g : D → D → Option Bool} {m1 m2 m3 : M Tk} {env : Env} : mChain f g m1 m2 m3 env = bindR (m1 env) fun t1 e => bindR (m2 e) fun t2 env => match look t1.settle env, look t2 env with
  | some a, some b => match f a b with
    | some true => bindR (m3 env) fun t3 e3 => match look t2.settle e3, look t3 e3 with
      | some b', some c => mOf ((g b' c).map fun k => .val (.bl k)) e3
      | _, _ => .bad
    | some false => .ok (.val (.bl false)) env
    | none => .bad
  | _, _ => .bad := (rfl)
end VM

set_option Elab.async false
set_option linter.all false
set_option maxRecDepth 100000
set_option maxHeartbeats 1000000
/-! VM M: own classes: attributes, methods, making, == by an own __eq__ -/
namespace VM
open PySem PySem.Spec PyProof.Rows L2
section
variable {X : Cx} {y : Y} {a b c e o value : Expr} {es : List Expr} {m m1 m2 : M Tk} {ma : M (List Tk)} {pos p p2 apos pos' : Pos} {f : Str} {k kk np : Nat}
/-! ### o.f -/
def dFld (cs : List Nat) (f : Str) : D → Option Tk
  | .ins c ns xs => if cs.contains c = true then ((ns.zip xs).lookup f).map .val else none
  | _ => none
/-- the classes cs may carry the attribute f -/
structure FA (K : PySem.W.Frag) (cm : Nat → Addr) (f : Str) (cs : List Nat) : Prop where
  ok : ∀ c ∈ cs, Cls K (cm c) ∧ NoAttr K (cm c) f
theorem px_fld {cs : List Nat} (T : FA X.K y.cm f cs) (ha : PX X y o m) (hb : attributeBase o f X.env (eval o X.env) = eval o X.env := by rfl) : PX X y (.Attribute o f pos) (mUn (dFld cs f) m) := by
  refine ⟨PE_imp (pe_fld ha.pe hb) fun σ H Q ⟨env, Hk, G, re, q⟩ => ⟨env, Hk, G, re, po_bind q fun t e1 v Hk1 H1 k1 r1 rt q1 => ?_⟩⟩
  unfold mLook1 at q1
  cases z : look t e1 with
  | none => rw [z] at q1; exact q1.elim
  | some d =>
    rw [z] at q1
    dsimp only at q1
    have pk := rt.look r1 z
    cases d with
    | ins c ns xs =>
      unfold dFld at q1
      dsimp only at q1
      by_cases hc : cs.contains c = true
      · rw [if_pos hc] at q1
        cases l : (ns.zip xs).lookup f with
        | none => rw [l] at q1; exact q1.elim
        | some dv =>
          rw [l] at q1
          obtain ⟨a, dx, vs, rfl, h1, h2, h3, h4⟩ := pk.ins r1.hk
          obtain ⟨vv, hv, rv⟩ := zip_look h4 l
          obtain ⟨g1, g2⟩ := T.ok c (by simpa using hc)
          exact ⟨a, y.cm c, dx, _, vv, rfl, h1, g1, g2, hv, q1 vv Hk1 H1 (Kx.refl _ _) r1 rv⟩
      · rw [if_neg hc] at q1; exact q1.elim
    | _ => exact q1.elim
/-! ### self.f = e -/
def putK (f : Str) : List Str → List Str
  | [] => [f]
  | g :: r => if g = f then g :: r else g :: putK f r
def putV {α : Type} (f : Str) (d : α) : List Str → List α → List α
  | [], _ => [d]
  | _ :: _, [] => [d]
  | g :: r, x :: xs => if g = f then d :: xs else x :: putV f d r xs
theorem put_zip {f : Str} {v : V} : ∀ {ns : List Str} {vs : List V}, ns.length = vs.length → putF f v (ns.zip vs) = (putK f ns).zip (putV f v ns vs)
  | [], [], _ => rfl
  | g :: r, x :: xs, h => by
    have ih := put_zip (f := f) (v := v) (ns := r) (vs := xs) (by simpa using h)
    rw [List.zip_cons_cons]
    show (if g = f then (g, v) :: r.zip xs else (g, x) :: putF f v (r.zip xs)) = _
    unfold putK putV
    by_cases q : g = f
    · rw [if_pos q, if_pos q, if_pos q, List.zip_cons_cons]
    · rw [if_neg q, if_neg q, if_neg q, List.zip_cons_cons, ih]
  | [], _ :: _, h => by cases h
  | _ :: _, [], h => by cases h
theorem put_len {α : Type} {f : Str} {v : α} : ∀ {ns : List Str} {vs : List α}, ns.length = vs.length → (putK f ns).length = (putV f v ns vs).length
  | [], [], _ => rfl
  | g :: r, x :: xs, h => by
    have ih := put_len (f := f) (v := v) (ns := r) (vs := xs) (by simpa using h)
    unfold putK putV
    by_cases q : g = f
    · rw [if_pos q, if_pos q]; simpa using h
    · rw [if_neg q, if_neg q]; simpa using ih
  | [], _ :: _, h => by cases h
  | _ :: _, [], h => by cases h
theorem RpL.put {C : Ct} {H : Hp} {f : Str} {d : D} {v : V} (q : Rp C H d v) : ∀ {ns : List Str} {xs : List D} {vs : List V}, RpL C H xs vs → ns.length = vs.length → RpL C H (putV f d ns xs) (putV f v ns vs)
  | [], _, _, _, _ => .cons q .nil
  | g :: r, [], _, h, l => by
    unfold RpL at h; subst h; cases l
  | g :: r, x :: xs, vs, h, l => by
    obtain ⟨v', vr, rfl, h1, h2⟩ := h.inv
    unfold putV
    by_cases z : g = f
    · rw [if_pos z, if_pos z]; exact .cons q h2
    · rw [if_neg z, if_neg z]; exact .cons h1 (RpL.put q h2 (by simpa using l))
def putD (cs : List Nat) (f : Str) (d : D) : D → Option D
  | .ins c ns xs => if cs.contains c = true ∧ ns.length < 1000 then some (.ins c (putK f ns) (putV f d ns xs)) else none
  | _ => none
/-- the object of slot k gets the attribute f -/
def mFld (k : Nat) (cs : List Nat) (f : Str) (m : M Tk) : M Fl := mBind m fun t env => match force t env with
  | .ok d e1 => match owD k e1 with
    | some o => match putD cs f d o with
      | some o' => .ok .nx (e1.set k (.ow o'))
      | none => .bad
    | none => .bad
  | _ => .bad
theorem psx_fld {cs : List Nat} (T : FA X.K y.cm f cs) (ho : PE X o (tVar k)) (hv : PX X y value m) (hs : swapsWith value (some (.Attribute o f pos')) pos.line X.env = pure false := by rfl) : PSx X y (.Assign [.Attribute o f pos'] value pos) (mFld k cs f m) := by
  refine ⟨PS_imp (ps_fld ho hv.pe hs) fun D σ H ⟨env, Hk, G, re, q⟩ => ⟨env, Hk, G, re, ps_bind q fun t e1 v Hk1 H1 k1 r1 rt q1 => ?_⟩⟩
  rcases force_cases t e1 with ⟨d, e2, z⟩ | z
  · rw [z] at q1
    dsimp only at q1
    obtain ⟨Hk2, k2, r2, rd⟩ := rt.force r1 z
    cases z2 : owD k e2 with
    | none => rw [z2] at q1; exact q1.elim
    | some ob =>
      rw [z2] at q1
      dsimp only at q1
      have hk := owD_at z2
      cases ob with
      | ins c ns xs =>
        unfold putD at q1
        dsimp only at q1
        by_cases hc : cs.contains c = true ∧ ns.length < 1000
        · rw [if_pos hc] at q1
          dsimp only at q1
          obtain ⟨a, hs, h0, oa⟩ := r2.ow k _ hk
          obtain ⟨g, dx, vs, h1, h2, h3, h4, h5⟩ := oa
          obtain ⟨g1, g2⟩ := T.ok c (by simpa using hc.1)
          refine ⟨.ref a, hs, a, y.cm c, dx, _, rfl, h1, g1, g2, ?_, ?_⟩
          · rw [List.length_zip]; omega
          · have ne : dx ≠ a := fun e => by subst e; rw [h1] at h2; cases h2
            refine q1 σ Hk2 _ k2 (r2.mut hk hs ?_)
            refine ⟨g, dx, putV f v ns vs, ?_, by rw [upd_ne ne]; exact h2, put_len h3, RpL.put rd h4 h3, h5⟩
            rw [upd_same, put_zip h3]
        · rw [if_neg hc] at q1; exact q1.elim
      | _ => exact q1.elim
  · rw [z] at q1; exact q1.elim
/-! ### calls of methods -/
/-- a call with the tokens ts -/
def mCallT (F : List D → Rf) (ts : List Tk) : M Tk := fun env => match lookAll ts env with
  | none => .bad
  | some ds => match F ds with
    | .ok nw d _ => if apart nw d = true then .ok (tkOf nw d) env else match forceAll ts env with
      | .ok _ e => .ok (tkOf nw d) e
      | _ => .bad
    | .ex c ns xs _ => if xs.all D.flat = true then .ex c ns xs env else match forceAll ts env with
      | .ok _ e => .ex c ns xs e
      | _ => .bad
    | .bad => .bad
abbrev Tab := List (Nat × (List D → Rf))
def tabF (tab : Tab) (c : Nat) : Option (List D → Rf) := tab.lookup c
theorem tab_mem {c : Nat} {F : List D → Rf} : ∀ {tab : Tab}, tabF tab c = some F → (c, F) ∈ tab
  | [], h => by cases h
  | (c', F') :: r, h => by
    unfold tabF at h
    rw [List.lookup_cons] at h
    split at h
    · rename_i q
      cases h
      rw [eq_of_beq q]
      exact List.mem_cons_self
    · exact List.mem_cons_of_mem _ (tab_mem (tab := r) h)
/-- o.m(..): the method by the object's class -/
def mMeth (n : Str) (tab : Tab) (mo : M Tk) (ma : M (List Tk)) : M Tk := mBind mo fun t env => match look t env with
  | some (.ins c ns _) => if ns.contains n = true then .bad else match tabF tab c with
    | some F => mBind ma (fun ts => mCallT F (t.settle :: ts)) env
    | none => .bad
  | _ => .bad
/-- the methods of one name -/
structure CM (P : Program) (w : World) (K : PySem.W.Frag) (mg : Str → Option Value) (base : Heap) (cm : Nat → Addr) (n : Str) (k np : Nat) (tab : Tab) : Prop where
  ne : tab ≠ []
  ok : ∀ x ∈ tab, ∃ f fd ps j, j ≤ k ∧ ps.length = np + 1 ∧ FnOk P w K mg base (L2.CX P w) j f fd ps (spF ⟨K, cm⟩ (np + 1) x.2) ∧ Cls K (cm x.1) ∧ Meth K (cm x.1) n f ∧ Binds K fd ps []
theorem look_none {n : Str} {C : Ct} {H : Hp} : ∀ {ns : List Str} {vs : List V}, ns.contains n = false → (ns.zip vs).lookup n = none
  | [], _, _ => rfl
  | _ :: _, [], _ => by simp
  | g :: r, x :: xs, h => by
    rw [List.contains_cons, Bool.or_eq_false_iff] at h
    rw [List.zip_cons_cons, List.lookup_cons, h.1]
    exact look_none (C := C) (H := H) h.2
/-- o.m(..), with the wish for exceptions at each state -/
theorem run_meth {C f : Addr} {fd : FuncData} {ps : List Str} {sp : Sp} {n : Str} {t ta : _} {E : L2.St → XK} {pl : Sem Bool} (he : PE X o ta) (c : Cls X.K C) (hm : Meth X.K C n f) (F : FnOk X.prog X.w X.K X.mg X.base (L2.CX X.prog X.w) k f fd ps sp) (hr : Room k X.A) (hb : Binds X.K fd ps []) (hx : ∀ σ, PassesAt (L2.CX X.prog X.w) X σ (E σ)) (ha : PA X (e :: es) t)
    (hst : starEach (e :: es) X.env = (false, eval e X.env) :: starEach es X.env) (hpl : (backTo pos (starEach es X.env)).any (·.1) = false)
    (ht : eval (.Call (.Attribute o n apos) (e :: es) [] pos) X.env = (do
      let ov ← eval o X.env
      standAt apos.atName
      let (f, first) ← holding [ov] (getMethod ov n pl)
      callWith pos f first (backTo pos (starEach (e :: es) X.env)) (backToKw pos (keywordEach [] X.env)))) :
    PE X (.Call (.Attribute o n apos) (e :: es) [] pos) (fun σ H Q => tMeth C n sp [] (E σ) ta t σ H Q) := by
  refine ⟨fun pins s σ H Q I h => ?_⟩
  refine PySem.W.methodCall_KW (pl := pl) (thn (he.run pins s σ H _ I h) fun u s1 ⟨x, H1, I1, rx, a, dx, fs, ex, ea, l, q⟩ => ?_) ht
  subst ex
  obtain rfl : u = Value.ref a := rx
  refine getmeth_ok I1 ea c hm l ?_
  refine PySem.W.callWith_K (first := [.ref a]) (h₀ := X.base) I.ok.mod.kin hm.kp (thn (ha.run pos pins s1 σ H1 _ I1 q) fun us s2 ⟨vs, H2, I2, r, q2⟩ => ⟨I2.kIn, ?_⟩) hst hpl
  exact run_fnSD (us := .ref a :: us) (vs := .ref a :: vs) F hr hb .nil (hx σ) I2 (.cons rfl r) q2
theorem run_meth0 {C f : Addr} {fd : FuncData} {ps : List Str} {sp : Sp} {n : Str} {ta : _} {E : L2.St → XK} {pl : Sem Bool} (he : PE X o ta) (c : Cls X.K C) (hm : Meth X.K C n f) (F : FnOk X.prog X.w X.K X.mg X.base (L2.CX X.prog X.w) k f fd ps sp) (hr : Room k X.A) (hb : Binds X.K fd ps []) (hx : ∀ σ, PassesAt (L2.CX X.prog X.w) X σ (E σ))
    (ht : eval (.Call (.Attribute o n apos) [] [] pos) X.env = (do
      let ov ← eval o X.env
      standAt apos.atName
      let (f, first) ← holding [ov] (getMethod ov n pl)
      callWith pos f first (backTo pos (starEach [] X.env)) (backToKw pos (keywordEach [] X.env)))) :
    PE X (.Call (.Attribute o n apos) [] [] pos) (fun σ H Q => tMeth C n sp [] (E σ) ta tNil σ H Q) := by
  refine ⟨fun pins s σ H Q I h => ?_⟩
  refine PySem.W.methodCall_KW (pl := pl) (thn (he.run pins s σ H _ I h) fun u s1 ⟨x, H1, I1, rx, a, dx, fs, ex, ea, l, q⟩ => ?_) ht
  subst ex
  obtain rfl : u = Value.ref a := rx
  refine getmeth_ok I1 ea c hm l ?_
  exact PySem.W.callWith_K0 (first := [.ref a]) I1.kIn hm.kp (run_fnSD (us := [.ref a]) (vs := [.ref a]) F hr hb .nil (hx σ) I1 (.cons rfl .nil) q)
/-- the reading of o.m(..) -/
theorem meth_go {n : Str} {tab : Tab} {t : TA} (M : CM X.prog X.w X.K X.mg X.base y.cm n k np tab) (hn : Many ma np) (ht : t = tA X y ma) {σ : L2.St} {H : Hp} {Q : VK} (h : tE X y (mMeth n tab m ma) σ H Q) :
    ∃ x ∈ tab, tMeth (y.cm x.1) n (spF (y.ct X) (np + 1) x.2) [] (WE y.W σ) (tE X y m) t σ H Q := by
  obtain ⟨env, Hk, G, re, q⟩ := h
  subst ht
  cases z : m env with
  | bad => unfold mMeth mBind at q; rw [z] at q; exact q.elim
  | ex c ns ds e =>
    unfold mMeth mBind at q
    rw [z] at q
    cases htab : tab with
    | nil => exact absurd htab M.ne
    | cons x r => exact ⟨x, List.mem_cons_self, env, Hk, G, re, by rw [z]; exact q⟩
  | ok t e1 =>
    have q0 := q
    unfold mMeth mBind at q
    rw [z] at q
    dsimp only at q
    cases zl : look t e1 with
    | none => rw [zl] at q; exact q.elim
    | some d =>
      rw [zl] at q
      cases d with
      | ins c ns xs =>
        dsimp only at q
        by_cases hc : ns.contains n = true
        · rw [if_pos hc] at q; exact q.elim
        · rw [if_neg hc] at q
          cases zt : tabF tab c with
          | none => rw [zt] at q; exact q.elim
          | some F =>
            rw [zt] at q
            dsimp only at q
            refine ⟨(c, F), tab_mem zt, env, Hk, G, re, ?_⟩
            rw [z]
            intro v Hk1 H1 k1 r1 rt
            obtain ⟨a, dx, vs, rfl, h1, h2, h3, h4⟩ := (rt.look r1 zl).ins r1.hk
            refine ⟨a, dx, _, rfl, h1, look_none (C := y.ct X) (H := H) (by simpa using hc), ?_⟩
            obtain ⟨Hk1', k1', r1', rv⟩ := rt.settle r1
            refine ⟨e1, Hk1', G, r1', pa_bindN hn ((q.kx k1).kx k1') fun ts e2 ws Hk2 H2 k2 r2 rs hl q2 => ?_⟩
            rw [List.append_nil]
            exact callF_go r2 (.cons (rv.kx k2) rs) (by rw [List.length_cons, ← rs.len, hl]) q2
      | _ => exact q.elim
theorem px_meth {n : Str} {tab : Tab} (M : CM X.prog X.w X.K X.mg X.base y.cm n k np tab) (hr : Room kk X.A) (tk : Takes X y.W) (ho : PX X y o m) (ha : PAs X y (e :: es) ma) (hn : Many ma np := by repeat first | exact many_nil | refine many_cons ?_) (hk : k ≤ kk := by decide) {pl : Sem Bool}
    (hst : starEach (e :: es) X.env = (false, eval e X.env) :: starEach es X.env := by rfl) (hpl : (backTo pos (starEach es X.env)).any (·.1) = false := by rfl)
    (ht : eval (.Call (.Attribute o n apos) (e :: es) [] pos) X.env = (do
      let ov ← eval o X.env
      standAt apos.atName
      let (f, first) ← holding [ov] (getMethod ov n pl)
      callWith pos f first (backTo pos (starEach (e :: es) X.env)) (backToKw pos (keywordEach [] X.env))) := by rfl) :
    PX X y (.Call (.Attribute o n apos) (e :: es) [] pos) (mMeth n tab m ma) := by
  refine ⟨⟨fun pins s σ H Q I h => ?_⟩⟩
  obtain ⟨x, hx, h⟩ := meth_go M hn rfl h
  obtain ⟨f, fd, ps, j, hj, hp, FO, c, hm, hb⟩ := M.ok x hx
  exact (run_meth ho.pe c hm FO (hr.mono (Nat.le_trans hj hk)) hb (fun σ => passAt tk σ) ha.pa hst hpl ht).run pins s σ H Q I h
theorem nil_tA : tE = tE := rfl
theorem px_meth0 {n : Str} {tab : Tab} (M : CM X.prog X.w X.K X.mg X.base y.cm n k 0 tab) (hr : Room kk X.A) (tk : Takes X y.W) (ho : PX X y o m) (hk : k ≤ kk := by decide) {pl : Sem Bool}
    (ht : eval (.Call (.Attribute o n apos) [] [] pos) X.env = (do
      let ov ← eval o X.env
      standAt apos.atName
      let (f, first) ← holding [ov] (getMethod ov n pl)
      callWith pos f first (backTo pos (starEach [] X.env)) (backToKw pos (keywordEach [] X.env))) := by rfl) :
    PX X y (.Call (.Attribute o n apos) [] [] pos) (mMeth n tab m mNil) := by
  refine ⟨⟨fun pins s σ H Q I h => ?_⟩⟩
  obtain ⟨x, hx, h⟩ := meth_go M many_nil rfl h
  obtain ⟨f, fd, ps, j, hj, hp, FO, c, hm, hb⟩ := M.ok x hx
  refine (run_meth0 ho.pe c hm FO (hr.mono (Nat.le_trans hj hk)) hb (fun σ => passAt tk σ) ht).run pins s σ H Q I ?_
  obtain ⟨env, Hk, G, re, h⟩ := h
  refine ⟨env, Hk, G, re, ?_⟩
  cases z : m env with
  | bad => rw [z] at h; exact h.elim
  | ex c ns ds e => rw [z] at h; exact h
  | ok t e1 =>
    rw [z] at h
    intro v Hk1 H1 k1 r1 rt
    obtain ⟨a, dx, fs, h1, h2, h3, env2, Hk2, G2, re2, h4⟩ := h v Hk1 H1 k1 r1 rt
    exact ⟨a, dx, fs, h1, h2, h3, h4 [] Hk2 H1 (Kx.refl _ _) re2 .nil⟩
/-! ### C(..) -/
/-- no mutable thing in it -/
def noMut : D → Bool
  | .non | .bl _ | .int _ | .str _ | .ty _ | .cl _ => true
  | .tup xs => noMutL xs
  | .tupf xs => noMutL xs
  | _ => false
where noMutL : List D → Bool
  | [] => true
  | d :: ds => noMut d && noMutL ds
def noMutI : D → Bool
  | .ins _ _ xs => noMut.noMutL xs
  | _ => false
/-- of H' what H has, and the rows beside -/
def keepH (H H' : Hp) : Hp := fun a => match H a with
  | some o => some o
  | none => match H' a with
    | some (.tup vs) => some (.tup vs)
    | some (.frz o u) => some (.frz o u)
    | _ => none
theorem keepH_ex {H H' : Hp} : Ex H (keepH H H') := fun a o h => by unfold keepH; rw [h]
theorem keepH_le {H H' : Hp} (e : Ex H H') : Ex (keepH H H') H' := fun a o h => by
  unfold keepH at h
  cases z : H a with
  | some u => rw [z] at h; cases h; exact e a _ z
  | none =>
    rw [z] at h
    dsimp only at h
    cases z2 : H' a with
    | none => rw [z2] at h; cases h
    | some u =>
      rw [z2] at h
      cases u <;> first | (cases h; rfl) | (cases h; done)
theorem keepH_t {H H' : Hp} (e : Ex H H') {a : Addr} {vs : List V} (h : H' a = some (.tup vs)) : keepH H H' a = some (.tup vs) := by
  unfold keepH
  cases z : H a with
  | some u => have := e a _ z; rw [h] at this; cases this; rfl
  | none => rw [h]
theorem keepH_f {H H' : Hp} (e : Ex H H') {a : Addr} {o : Obj} {u : HO} (h : H' a = some (.frz o u)) : keepH H H' a = some (.frz o u) := by
  unfold keepH
  cases z : H a with
  | some u => have := e a _ z; rw [h] at this; cases this; rfl
  | none => rw [h]
mutual
theorem rp_keep {C : Ct} {H H' : Hp} (e : Ex H H') : ∀ {d : D} {v : V}, noMut d = true → Rp C H' d v → Rp C (keepH H H') d v
  | .non, _, _, h | .bl _, _, _, h | .int _, _, _, h | .str _, _, _, h | .ty _, _, _, h | .cl _, _, _, h => by unfold Rp at h ⊢; exact h
  | .tup xs, v, n, h => by
    unfold Rp at h ⊢
    obtain ⟨a, vs, rfl, h1, h2⟩ := h
    exact ⟨a, vs, rfl, keepH_t e h1, rpl_keep e (by unfold noMut at n; exact n) h2⟩
  | .tupf xs, v, n, h => by
    unfold Rp at h ⊢
    obtain ⟨a, o, vs, rfl, h1, h3, h5, h4⟩ := h
    exact ⟨a, o, vs, rfl, keepH_f e h1, h3, h5, rpl_keep e (by unfold noMut at n; exact n) h4⟩
  | .scr _, _, n, _ | .lst _, _, n, _ | .ins _ _ _, _, n, _ | .dic _ _, _, n, _ => by unfold noMut at n; cases n
theorem rpl_keep {C : Ct} {H H' : Hp} (e : Ex H H') : ∀ {ds : List D} {vs : List V}, noMut.noMutL ds = true → RpL C H' ds vs → RpL C (keepH H H') ds vs
  | [], _, _, h => by unfold RpL at h ⊢; exact h
  | d :: ds, vs, n, h => by
    unfold RpL at h ⊢
    obtain ⟨v, r, rfl, h1, h2⟩ := h
    unfold noMut.noMutL at n
    rw [Bool.and_eq_true] at n
    exact ⟨v, r, rfl, rp_keep e n.1 h1, rpl_keep e n.2 h2⟩
end
def mMake (c : Nat) (F : List D → Rf) (ma : M (List Tk)) : M Tk := mBind ma fun ts env => match lookAll ts env with
  | none => .bad
  | some ds => match F (.ins c [] [] :: ds) with
    | .ok false .non p => if noMutI p = true then .ok (.new p) env else match forceAll ts env with
      | .ok _ e => .ok (.new p) e
      | _ => .bad
    | .ex c' ns xs _ => match forceAll ts env with
      | .ok _ e => .ex c' ns xs e
      | _ => .bad
    | _ => .bad
/-- shared from the start -/
def mVal (m : M Tk) : M Tk := mBind m fun t env => .ok t.settle env
structure CK (P : Program) (w : World) (K : PySem.W.Frag) (mg : Str → Option Value) (base : Heap) (cm : Nat → Addr) (x : Str) (c k np : Nat) (F : List D → Rf) : Prop where
  ex : ∃ f fd ps, Mk K (cm c) f ∧ ps.length = np + 1 ∧ FnOk P w K mg base (L2.CX P w) k f fd ps (spIO ⟨K, cm⟩ (np + 1) F) ∧ Binds K fd ps [] ∧ mg x = some (.ref (cm c))
theorem run_makeS {C f : Addr} {fd : FuncData} {ps : List Str} {sp : Sp} {E : XK} {pins : List (Addr × Obj)} {σ : L2.St} {H : Hp} {s : Shared} {Q : VK} {us : List Value} {vs : List V} (M : Mk X.K C f) (F : FnOk X.prog X.w X.K X.mg X.base (L2.CX X.prog X.w) k f fd ps sp) (hr : Room (k + 1) X.A) (hb : Binds X.K fd ps [])
    (hx : PassesAt (L2.CX X.prog X.w) X σ E) (I : Inv X pins σ H s) (r : Vals vs us)
    (h : ∀ x dx, H x = none → H dx = none → dx ≠ x → sp (.ref x :: vs) (upd (upd H dx (.own x)) x (.ins C dx [])) (fun v H2 => v = .non ∧ Q (.ref x) H2) E) :
    wpAny (model X.prog X.w) X.A (call (.ref C) us) (EP X pins σ Q) X.xe s := by
  have hq := h (s.heap.objs.size + 1) s.heap.objs.size (I.hok.fresh (Nat.le_succ _)) (I.hok.fresh (Nat.le_refl _)) (Nat.ne_of_lt (Nat.lt_succ_self _))
  have I2 := Inv.made (C := C) I
  have r2 : Vals (V.ref (s.heap.objs.size + 1) :: vs) (Value.ref (s.heap.objs.size + 1) :: us) := .cons rfl r
  have hl : ((Value.ref (s.heap.objs.size + 1) :: us) ++ []).length = ps.length := by
    rw [List.append_nil]
    have e := r2.length
    rw [F.len _ _ _ _ hq] at e
    exact e.symm
  have hbb := hb _ (Value.ref (s.heap.objs.size + 1) :: us) I2.kIn hl
  rw [List.append_nil] at hbb
  refine wpAny_call (make_map (f := f) I.kIn M.makes M.init (beq_iff_eq.mp M.fn) (codeAny_mono (F.run _ X.stack _ _ ⟨Value.ref (s.heap.objs.size + 1) :: us, []⟩ (Value.ref (s.heap.objs.size + 1) :: us) _ _ E (hr.make C us [])
    (I2.env0.make C us []) hbb r2 hq) fun r s' hq' => ?_))
  cases r with
  | error e => exact hx pins _ _ e s' I2 hq'
  | ok fl =>
    cases fl with
    | ret u =>
      obtain ⟨v, H', I3, rv, ev, q3⟩ := I2.after hq'
      subst ev
      exact ⟨rv, ⟨V.ref (s.heap.objs.size + 1), H', I3, rfl, q3⟩⟩
    | next => exact False.elim hq'
    | brk => exact False.elim hq'
    | cont => exact False.elim hq'
theorem make_go {c : Nat} {F : List D → Rf} (hn : Many ma np) {ts : List Tk} {e : Env} {σ : L2.St} {Hk G H : Hp} {vs : List V} {Q : VK} (re : RE (y.ct X) y.xa G e σ Hk H) (rs : RVs (y.ct X) σ Hk ts vs) (hl : vs.length = np)
    (q : PoE (y.ct X) y.xa y.W G σ Hk (match lookAll ts e with
      | none => .bad
      | some ds => match F (.ins c [] [] :: ds) with
        | .ok false .non p => if noMutI p = true then .ok (.new p) e else match forceAll ts e with
          | .ok _ e => .ok (.new p) e
          | _ => .bad
        | .ex c' ns xs _ => match forceAll ts e with
          | .ok _ e => .ex c' ns xs e
          | _ => .bad
        | _ => .bad) Q) (x dx : Addr) (h1 : H x = none) (h2 : H dx = none) (h3 : dx ≠ x) :
    spIO (y.ct X) (np + 1) F (.ref x :: vs) (upd (upd H dx (.own x)) x (.ins (y.cm c) dx [])) (fun v H2 => v = .non ∧ Q (.ref x) H2) (WE y.W σ) := by
  cases z : lookAll ts e with
  | none => rw [z] at q; exact q.elim
  | some ds =>
    rw [z] at q
    dsimp only at q
    obtain ⟨e2, z2⟩ := lookAll_force z
    obtain ⟨Hk2, k2, r2, rl⟩ := RVs.force re rs z2
    have ex : Ex H (upd (upd H dx (.own x)) x (.ins (y.cm c) dx [])) := (Ex.new h2).trans (Ex.new (by rw [upd_ne (Ne.symm h3)]; exact h1))
    refine ⟨by rw [List.length_cons, hl], x, vs, .ins c [] [], ds, Hk2, H, rfl, ex, r2.hk.trans ex, r2.hk.back h1, ⟨h1, dx, [], by rw [upd_same]; rfl, by rw [upd_ne h3, upd_same], rfl, .nil, h2⟩, rl, ?_⟩
    have nosl : ∀ {e2 : Env} {Hk2 : Hp}, RE (y.ct X) y.xa G e2 σ Hk2 H → ∀ (i : Nat) (d' : D), e2[i]? = some (.ow d') → σ[i]? ≠ some (some (.ref x)) := fun r2 i d' hi hs => by
      obtain ⟨_, oa⟩ := r2.owAt hi hs
      obtain ⟨u, hu, _⟩ := oa.at
      rw [h1] at hu
      cases hu
    cases zF : F (.ins c [] [] :: ds) with
    | bad => rw [zF] at q; exact q.elim
    | ok nw d p =>
      rw [zF] at q
      cases nw with
      | true => exact q.elim
      | false =>
        cases d with
        | non =>
          dsimp only at q ⊢
          intro v Hk' H' kx x1 x2 h0 oa hv bk
          have bk : Rp (y.ct X) Hk' .non v := bk
          refine ⟨by unfold Rp at bk; exact bk, ?_⟩
          by_cases nm : noMutI p = true
          · rw [if_pos nm] at q
            have eK : Ex Hk Hk' := k2.ex.trans kx.ex
            have le : Ex (keepH Hk Hk') Hk' := keepH_le eK
            refine q (.ref x) (keepH Hk Hk') H' ⟨keepH_ex, fun b o g1 g2 => ?_⟩ ((re.ext x2).know keepH_ex (le.trans x1) fun i d' a hi hs => ?_) ⟨x, rfl, le.back h0, ?_, nosl re⟩
            · cases z4 : Hk2 b with
              | some u => exact k2.new b u z4 g2
              | none => exact r2.g.back (kx.new b o (le b o g1) z4)
            · obtain ⟨g1, g2⟩ := re.owAt hi hs
              obtain ⟨u, hu, iu⟩ := g2.at
              unfold keepH
              rw [g1]
              dsimp only
              cases z4 : Hk' a with
              | none => rfl
              | some w =>
                have := x2 a u hu
                rw [x1 a w z4] at this
                cases this
                cases u <;> first | rfl | exact iu.elim
            · cases p with
              | ins c3 ns xs =>
                obtain ⟨g, dx3, vs3, m1, m2, m3, m4, m5⟩ := oa
                exact ⟨r2.g.back g, dx3, vs3, m1, m2, m3, rpl_keep eK nm m4, r2.g.back m5⟩
              | _ => cases nm
          · rw [if_neg nm, z2] at q
            obtain ⟨r3, k3⟩ := r2.back kx x1 x2
            exact q (.ref x) Hk' H' (k2.trans k3) r3 ⟨x, rfl, h0, oa.gmono r2.g, nosl r2⟩
        | _ => exact q.elim
    | ex c' ns xs p =>
      rw [zF] at q
      dsimp only at q ⊢
      rw [z2] at q
      intro cls dd Hk' H' kx x1 x2 h0 oa rx
      obtain ⟨r3, k3⟩ := r2.back kx x1 x2
      exact q cls dd Hk' H' (k2.trans k3) r3 rx
theorem px_make {x : Str} {c : Nat} {F : List D → Rf} (M : CK X.prog X.w X.K X.mg X.base y.cm x c k np F) (hr : Room kk X.A) (tk : Takes X y.W) (ha : PAs X y (e :: es) ma) (hn : Many ma np := by repeat first | exact many_nil | refine many_cons ?_) (hk : k + 1 ≤ kk := by decide) (hg : Gl X x := by rfl) (hdb : (x == ("__debug__" : Str)) = false := by decide)
    (he : starEach (e :: es) X.env = (false, eval e X.env) :: starEach es X.env := by rfl) (hpl : (backTo pos (starEach es X.env)).any (·.1) = false := by rfl) :
    PX X y (.Call (.Name x p) (e :: es) [] pos) (mMake c F ma) := by
  obtain ⟨f, fd, ps, mk, hp, FO, hb, hm⟩ := M.ex
  refine ⟨⟨fun pins s σ H Q I h => ?_⟩⟩
  refine wpAny_Call_Name_kw (ld_glob I hg hm ?_ hdb)
  have h2 : tA X y ma σ H (fun vs H1 => ∀ z dx, H1 z = none → H1 dx = none → dx ≠ z → spIO (y.ct X) (np + 1) F (.ref z :: vs) (upd (upd H1 dx (.own z)) z (.ins (y.cm c) dx [])) (fun v H2 => v = .non ∧ Q (.ref z) H2) (WE y.W σ)) := by
    obtain ⟨env, Hk, G, re, q⟩ := h
    exact ⟨env, Hk, G, re, pa_bindN hn q fun ts e1 vs Hk1 H1 k1 r1 rs hl q1 z dx g1 g2 g3 => make_go hn r1 rs (by rw [← rs.len]; exact hl) q1 z dx g1 g2 g3⟩
  refine PySem.W.callWith_K (h₀ := X.base) I.ok.mod.kin mk.kp (thn (ha.pa.run pos pins s σ H _ I h2) fun us s1 ⟨vs, H1, I1, r, q⟩ => ⟨I1.kIn, ?_⟩) he hpl
  exact run_makeS mk FO (hr.mono hk) hb (passAt tk σ) I1 r q
theorem px_val (h : PX X y e m) : PX X y e (mVal m) := by
  refine ⟨PE_imp h.pe fun σ H Q ⟨env, Hk, G, re, q⟩ => ⟨env, Hk, G, re, po_bind q fun t e1 v Hk1 H1 k1 r1 rt q1 => ?_⟩⟩
  obtain ⟨Hk2, k2, r2, rv⟩ := rt.settle r1
  exact q1 v Hk2 H1 k2 r2 rv.rt
end
end VM

set_option Elab.async false
set_option linter.all false
set_option maxRecDepth 100000
set_option maxHeartbeats 1000000
/-! VM N: == by an own __eq__; enumerate of tuples; tuple.index; any, all of numbers -/
namespace VM
open PySem PySem.Spec PyProof.Rows L2
/-! ### a == b, instances -/
section
variable {X : Cx} {y : Y} {a b e : Expr} {m m1 m2 : M Tk} {ma : M (List Tk)} {pos p : Pos} {k kk : Nat}
def rEqO (C : Ct) (c : Nat) (F : List D → Rf) : R2 := fun x y H Q => ∃ a b dx dy fs gs, x = .ref a ∧ y = .ref b ∧ H a = some (.ins (C.cm c) dx fs) ∧ H b = some (.ins (C.cm c) dy gs) ∧
  spF C 2 F [.ref a, .ref b] H (fun v H' => ∃ k, v = .bl k ∧ Q (.bl k) H') E0
structure CE (P : Program) (w : World) (K : PySem.W.Frag) (mg : Str → Option Value) (base : Heap) (cm : Nat → Addr) (k : Nat) (tab : Tab) : Prop where
  ok : ∀ x ∈ tab, ∃ f fd ps j, j ≤ k ∧ FnOk P w K mg base (L2.CX P w) j f fd ps (spF ⟨K, cm⟩ 2 x.2) ∧ PySem.W.findIn K (.ref (cm x.1)) "__eq__" = some (some (.ref f)) ∧ PySem.W.isFn K (.ref f) = true ∧ Binds K fd ps []
theorem op_eqO {c : Nat} {F : List D → Rf} {f : Addr} {fd : FuncData} {ps : List Str} (FO : FnOk X.prog X.w X.K X.mg X.base (L2.CX X.prog X.w) k f fd ps (spF (y.ct X) 2 F))
    (hs : PySem.W.findIn X.K (.ref (y.cm c)) "__eq__" = some (some (.ref f))) (hf : PySem.W.isFn X.K (.ref f) = true) (hb : Binds X.K fd ps []) (hr : Room k X.A) : OpR X (compareOp .Eq) (rEqO (y.ct X) c F) := by
  intro pins s σ H x y' v u Q I rx ry hq
  obtain ⟨a, b, dx, dy, fs, gs, rfl, rfl, ha, hb', hsp⟩ := hq
  cases rx
  cases ry
  obtain ⟨mA, J, _⟩ := ins_get I.hok ha
  obtain ⟨mB, J', _⟩ := ins_get I.hok hb'
  obtain ⟨od, J, _⟩ := J.look
  obtain ⟨od', J', _⟩ := J'.look
  obtain ⟨m, hF⟩ := I.fr
  show wpAny (model X.prog X.w) X.A (richCompare .Eq (.ref a) (.ref b)) (EP X pins σ Q) X.xe s
  refine PySem.W.cmp_K (op := .Eq) (tb := .ref (y.cm c)) hr.units0 hF I.ok.mod.kin J J'.type (by simp [PySem.W.notFirst]) hs hf ?_
  have hl := FO.len _ _ _ _ hsp
  have r2 : Vals [V.ref a, V.ref b] [Value.ref a, Value.ref b] := .cons rfl (.cons rfl .nil)
  refine wpAny_call (codeAny_mono (FO.run X.A X.stack s H ⟨[.ref a, .ref b], []⟩ [.ref a, .ref b] [.ref a, .ref b] _ _ hr I.env0 (by
    have := hb s [.ref a, .ref b] I.kIn (by simpa using hl)
    simpa using this) r2 hsp) fun r s' hq => ?_)
  cases r with
  | error e => exact passL pins σ H s e s' I hq
  | ok fl =>
    cases fl with
    | ret w =>
      obtain ⟨z, H', I', rz, kb, ez, ex⟩ := I.after hq
      subst ez
      cases rz
      exact ⟨.bl kb, H', I', rfl, ex⟩
    | next => exact False.elim hq
    | brk => exact False.elim hq
    | cont => exact False.elim hq
def cEqO (tab : Tab) : D → D → Option Bool
  | .ins c ns xs, .ins c' ns' xs' => if c = c' then match tabF tab c with
    | some F => match F [.ins c ns xs, .ins c' ns' xs'] with
      | .ok _ (.bl b) _ => some b
      | _ => none
    | none => none
    else none
  | a, b => cEq a b
def rEqG2 (X : Cx) (y : Y) (tab : Tab) : R2 := fun x y' H Q => rEqD X.K x y' H Q ∨ ∃ z ∈ tab, rEqO (y.ct X) z.1 z.2 x y' H Q
theorem op_eqG2 {tab : Tab} (T : CE X.prog X.w X.K X.mg X.base y.cm k tab) (hr : Room kk X.A) (hk : k ≤ kk) : OpR X (compareOp .Eq) (rEqG2 X y tab) := by
  intro pins s σ H x y' v u Q I rx ry hq
  rcases hq with hq | ⟨z, hz, hq⟩
  · exact op_eqD hr.units pins s σ H x y' v u Q I rx ry hq
  · obtain ⟨f, fd, ps, j, hj, FO, h1, h2, h3⟩ := T.ok z hz
    exact op_eqO FO h1 h2 h3 (hr.mono (Nat.le_trans hj hk)) pins s σ H x y' v u Q I rx ry hq
theorem eqO_ok {tab : Tab} : Op2 X y (lift (cEqO tab)) (rEqG2 X y tab) := by
  intro Hk H a b v w t Q e h pa pb q
  have other : lift cEq a b = some t → rEqG2 X y tab v w H Q := fun h => .inl (eq_ok Hk H a b v w t Q e h pa pb q)
  unfold lift at h
  cases zb : cEqO tab a b with
  | none => rw [zb] at h; cases h
  | some k0 =>
  rw [zb] at h
  cases h
  unfold cEqO at zb
  split at zb
  · rename_i c ns xs c' ns' xs'
    split at zb
    · rename_i hc
      subst hc
      cases zt : tabF tab c with
      | none => rw [zt] at zb; cases zb
      | some F =>
        rw [zt] at zb
        dsimp only at zb
        have ra := pa.all e
        have rb := pb.all e
        have ra' := ra
        have rb' := rb
        unfold Rp at ra rb
        obtain ⟨p1, d1, vs1, rfl, h1, _⟩ := ra
        obtain ⟨p2, d2, vs2, rfl, h2, _⟩ := rb
        refine .inr ⟨(c, F), tab_mem zt, p1, p2, d1, d2, _, _, rfl, rfl, h1, h2, rfl, [.ins c ns xs, .ins c ns' xs'], H, Ex.refl _, .cons ra' (.cons rb' .nil), ?_⟩
        cases zF : F [.ins c ns xs, .ins c ns' xs'] with
        | bad => rw [zF] at zb; cases zb
        | ex _ _ _ _ => rw [zF] at zb; cases zb
        | ok nw d p =>
          rw [zF] at zb
          cases d with
          | bl kb =>
            cases zb
            rw [show (c, F).2 [.ins c ns xs, .ins c ns' xs'] = Rf.ok nw (.bl k0) p from zF]
            dsimp only
            intro v' Hk' H' kx x1 x2 bk
            have ev : v' = .bl k0 := by
              unfold Bk at bk
              split at bk
              · obtain ⟨_, _, _, oa⟩ := bk; exact oa.elim
              · unfold Rp at bk; exact bk
            exact ⟨k0, ev, q _ _ ⟨x2, Hk, Kx.refl _ _, e.trans x2, rp_bl⟩⟩
          | _ => cases zb
    · cases zb
  · exact other (by unfold lift; rw [zb])
theorem pb_eqo {tab : Tab} (T : CE X.prog X.w X.K X.mg X.base y.cm k tab) (hr : Room kk X.A) (ha : PX X y a m1) (hb : PX X y b m2) (hk : k ≤ kk := by decide) : PB X y (.Compare a [.Eq] [b] pos) (mCmp (cEqO tab) m1 m2) := pb_cmp (op_eqG2 T hr hk) eqO_ok ha hb (nomark _)
theorem px_eqo {tab : Tab} (T : CE X.prog X.w X.K X.mg X.base y.cm k tab) (hr : Room kk X.A) (ha : PX X y a m1) (hb : PX X y b m2) (hk : k ≤ kk := by decide) : PX X y (.Compare a [.Eq] [b] pos) (mBin (lift (cEqO tab)) m1 m2) := px_cmp (op_eqG2 T hr hk) eqO_ok ha hb (nomark _)
end
/-! ### enumerate(tuple) -/
theorem meets_enum_new1 {v : Value} {o : Obj} {H : Heap → Prop} (B : Begins v o H) :
    Meets (Builtin.«enumerate.__new__» ⟨[.type "enumerate", v], []⟩) (fun _ R s => H s.heap ∧
      R (.ok (.ret (.ref (s.heap.push o).objs.size))) { s with heap := (s.heap.push o).push { cls := .type "enumerate", data := .fields #[.none, .bool false, .ref s.heap.objs.size, rawInt 0, .none, .none] } }) :=
  .of_wp fun prog w A R s h => by
    obtain ⟨hp, g, d, tk, os⟩ := s; obtain ⟨h1, h⟩ := h
    have hsub := sub_enumerate
    have q1 : ∀ {A' : Around} {E : Value → Shared → Prop} {Q : Value → Shared → Prop}, Q (.ref hp.objs.size) ⟨hp.push o, g, d, tk, os⟩ → wpAny (model prog w) A' (pyIter v) Q E ⟨hp, g, d, tk, os⟩ :=
      fun q => B.iter prog w _ _ ⟨hp, g, d, tk, os⟩ _ h1 q
    wp_walk using q1
    refine wpAny_stack_any fun st => wpAny_pure ?_
    split
    · rename_i c _ _ _ _ _
      cases (c == Value.type "enumerate")
      · wp_walk using q1
        exact ⟨_, rfl, h⟩
      · wp_walk using q1
        exact ⟨_, rfl, h⟩
    · wp_walk using q1
      exact ⟨_, rfl, h⟩
section
variable {prog : Program} {w : World} {A : Around} {E : Value → Shared → Prop} {s : Shared}
theorem enum_begins1 {v : Value} {o : Obj} {H : Heap → Prop} {Q : Value → Shared → Prop} (B : Begins v o H) (h1 : H s.heap)
    (h : ∀ h', IsEnum h' (s.heap.objs.size + 1) s.heap.objs.size 0 .none → h'.get? s.heap.objs.size = some o → h'.objs.size = s.heap.objs.size + 2 →
      (∀ b o, s.heap.get? b = some o → h'.get? b = some o) → Q (.ref (s.heap.objs.size + 1)) { s with heap := h' }) :
    wpAny (model prog w) A (call (.type "enumerate") [v]) Q E s := by
  refine callType_new F.called_enumerate (by decide) (F.typeCall_enumerate_1 _) (F.newCall_enumerate_1 _) (fun obj => F.args_object_init_2 obj _) F.entry_enumerate_new
    (meets_enum_new1 B) ⟨h1, ?_⟩
  have hz : (s.heap.push o).objs.size = s.heap.objs.size + 1 := Heap.size_push ..
  show _ ∧ _
  rw [hz]
  have he : IsEnum ((s.heap.push o).push { cls := .type "enumerate", data := .fields #[.none, .bool false, .ref s.heap.objs.size, rawInt 0, .none, .none] }) (s.heap.objs.size + 1) s.heap.objs.size 0 .none := by
    have := Heap.get?_push_size (s.heap.push o) (o := { cls := .type "enumerate", data := .fields #[.none, .bool false, .ref s.heap.objs.size, rawInt 0, .none, .none] }) rfl
    rw [hz] at this; exact this
  refine ⟨⟨_, he, rfl⟩, h _ he (Heap.get?_push_of_some _ (Heap.get?_push_size _ B.free)) (by rw [Heap.size_push, hz]) fun b o x => Heap.get?_push_of_some _ (Heap.get?_push_of_some _ x)⟩
end
section
variable {prog : Program} {w : World} {A : Around} {E : Value → Shared → Prop} {s : Shared}
theorem wpAny_pyNext_enum_endT {e it l : Addr} {i : Nat} {items : Array Value} {old : Value} {Q : Option Value → Shared → Prop} (hh : A.handled = none)
    (he : IsEnum s.heap e it i old) (hit : s.heap.IsTupleIter it l i) (hl : s.heap.IsTuple l items) (hx : items[i]? = none)
    (hQ : ∀ h', Heap.ExtBut it s.heap h' → Q none { s with heap := h' }) : wpAny (model prog w) A (pyNext (.ref e)) Q E s := by
  have hT : s.TypeIs (.ref e) "enumerate" := ⟨_, he, rfl⟩
  unfold pyNext
  refine wpAny_bind (wpAny_attempt (wpAny_callSpecial?_slot (name := Str.ofString "__next__") hT F.slot_enumerate_next
    (wpAny_call_entry F.slot_enumerate_next hT F.entry_enumerate_next ?_ (F.args_enumerate_next_1 _))))
  show wpAny _ _ (field (.ref e) 2 >>= _) _ _ _
  refine wpAny_bind (wpAny_field he rfl (x := .ref it) rfl ?_)
  refine wpAny_bind (wpAny_nextOf_tuple_end hh hit hl hx fun h' x he' hx' => ?_)
  obtain ⟨o, ho, hc⟩ := hx'
  refine wpAny_bind (wpAny_isInstance (T := "StopIteration") (b := true) ⟨o, ho, hc⟩ isSubtype_stop ?_)
  exact wpAny_pure (hQ _ he')
end
def IteT (K : PySem.W.Frag) (a : Addr) : It :=
  ⟨fun i H => ∃ (xs : List V) (x : V), SqT K H a xs ∧ xs[i]? = some x, fun i H v H' => ∃ T x, v = .ref T ∧ H T = none ∧ H' = upd H T (.tup [.int (i : Nat), x]) ∧ ∀ xs, SqT K H a xs → xs[i]? = some x, fun i H => ∃ xs : List V, SqT K H a xs ∧ xs.length ≤ i⟩
theorem turn_enumT {P : Program} {w : World} {K : PySem.W.Frag} {elts : List Expr} {kk : Nat} {tpos : Pos} (a e it : Addr) :
    Turn P w K (.Tuple elts kk tpos) (IteT K a) [e, it] e (fun i h => (∃ old, IsEnum h e it ((i : Nat) : Int) old) ∧ h.IsTupleIter it a i ∧ e ≠ it) where
  mem := by simp
  obj := fun i h st b hb => by
    obtain ⟨⟨old, he⟩, ⟨o, ho, hc, hd⟩, _⟩ := st
    have e' : b = e ∨ b = it := by simpa using hb
    rcases e' with z | z
    · rw [z]; exact ⟨_, he, fun v q => nomatch q⟩
    · rw [z]; exact ⟨o, ho, fun v q => by rw [hd] at q; cases q⟩
  keep := fun i h h' st k => let ⟨⟨old, he⟩, hi, hne⟩ := st; ⟨⟨old, k e (by simp) _ he⟩, hi.at fun o q => k it (by simp) o q, hne⟩
  item := by
    intro X hP hw hK hc i pins s σ H E I hf st hg
    subst hP hw hK
    obtain ⟨⟨old, he⟩, hit, hne⟩ := st
    obtain ⟨xs, x, hq, hx⟩ := hg
    obtain ⟨its, rv, p, hz⟩ := I.tuple hq
    obtain ⟨u, hu, ru⟩ := rv.get hx
    have hel : e < s.heap.objs.size := Heap.lt_size he
    have hil : it < s.heap.objs.size := by obtain ⟨_, q, _⟩ := hit; exact Heap.lt_size q
    have hai : a ≠ it := fun z => by
      obtain ⟨o, h1, h2, _⟩ := hit
      obtain ⟨o', h3, h4, _⟩ := p
      rw [z, h1] at h3
      cases h3
      rw [h2] at h4
      simp at h4
    have hea : e ≠ a := fun z => by
      obtain ⟨o', h3, h4, _⟩ := p
      have he' := he
      unfold IsEnum at he'
      rw [z, h3] at he'
      cases he'
      simp at h4
    have hlt : i < its.toArray.size := by
      have := (List.getElem?_eq_some_iff.mp hu).1
      simpa using this
    refine wpAny_pyNext_enum_itemC (fp := [it, a]) (Draws.tuple (A := X.A.in1) (I.ok.hd hc) it a hai its.toArray) he ⟨hit, p⟩ hlt hne (by simp [hne, hea]) fun z h' tk hP ho hit' hT hsz hk => ?_
    have ez : z = u := by
      have h1 : its[i]? = some z := by simpa using hP
      rw [hu] at h1
      cases h1
      rfl
    subst ez
    refine ⟨_, rfl, wpAny_letOwnedTupleGo_enum (s := { s with heap := h', toks := tk + 1 }) ho fun h'' he' sb => ?_⟩
    have hT2 : h''.get? s.heap.objs.size = some { cls := .type "tuple", data := .seq #[.int i tk, z] } := (sb.2 _ (Nat.ne_of_gt hel)).trans hT
    have new : ObjOk X.prog X.w (upd H s.heap.objs.size (.tup [.int (i : Nat), x])) h'' s.heap.objs.size (.tup [.int (i : Nat), x]) :=
      ⟨by show 2 ≤ sizeLine; decide, [.int i tk, z], .cons ⟨_, rfl⟩ (.cons ru .nil), ⟨_, hT2, rfl, _, rfl⟩⟩
    have I1 : Inv X pins σ (upd H s.heap.objs.size (.tup [.int (i : Nat), x])) { s with heap := h'', toks := tk + 1 } :=
      I.turnedNew (ch := [e, it]) (fun b ob hb q => (sb.2 b (fun z => hb (by simp [z]))).trans (hk b ob (fun z => hb (by simp [z])) (fun z => hb (by simp [z])) q)) hf (Nat.le_refl _) new
    refine ⟨.ref s.heap.objs.size, _, I1, rfl, ⟨_, x, rfl, I.hok.fresh (Nat.le_refl _), rfl, fun ys hy => by rw [I.tuple_inj hy hq]; exact hx⟩, ⟨⟨z, ?_⟩, hit'.1.at fun o q => (sb.2 it (Ne.symm hne)).trans q, hne⟩, fun b hb => ?_⟩
    · have e1 : ((i + 1 : Nat) : Int) = (i : Int) + 1 := by omega
      rw [e1]; exact he'
    · have hb' : b < s.heap.objs.size := by
        have e' : b = e ∨ b = it := by simpa using hb
        rcases e' with z | z
        · rw [z]; exact hel
        · rw [z]; exact hil
      rw [upd_ne (Nat.ne_of_lt hb')]
      exact (hf b hb).1
  done := by
    intro X hP hw hK hc i pins s σ H E I hf st hg
    subst hP hw hK
    obtain ⟨⟨old, he⟩, hit, hne⟩ := st
    obtain ⟨xs, hq, hx⟩ := hg
    obtain ⟨its, rv, p, hz⟩ := I.tuple hq
    obtain ⟨f0, f1, f2, f3, f4, f5⟩ := hf it (by simp)
    have hl := rv.length
    have hai : a ≠ it := fun z => by
      obtain ⟨o, h1, h2, _⟩ := hit
      obtain ⟨o', h3, h4, _⟩ := p
      rw [z, h1] at h3
      cases h3
      rw [h2] at h4
      simp at h4
    exact wpAny_pyNext_enum_endT (I.ok.hd hc) he hit p (by simp; omega) fun h' eb => ⟨rfl, I.turned (t' := s.toks) (fun b o hb q => eb b o hb q) f0 f1 f3 f4 f5⟩
  self := fun A i s Q E st h => let ⟨⟨_, he⟩, _⟩ := st; wpAny_pyIter_enum he h
def iEnumA (K : PySem.W.Frag) (ta : TA) : TI := fun σ H R => ta σ H fun vs H1 => ∃ a xs, vs = [.ref a] ∧ ((SqL K H1 a xs ∧ R (Ite K a) H1) ∨ (SqT K H1 a xs ∧ R (IteT K a) H1))
theorem pi_enumA {X : Cx} {e : Expr} {ta : TA} {p pos tpos : Pos} {elts : List Expr} {kk : Nat} (hg : Gl X "enumerate") (hm : X.mg "enumerate" = none) (ha : PA X [e] ta) (hs : starEach [e] X.env = [(false, eval e X.env)] := by rfl) :
    PI X (.Tuple elts kk tpos) (.Call (.Name "enumerate" p) [e] [] pos) (iEnumA X.K ta) := by
  refine ⟨fun pins s σ H R I h => ?_⟩
  refine Call_ (ld_blt I hg hm boot_enumerate (PyProof.Rows.callWith_type1 (thn (ha.run pos pins s σ H _ I h) fun us s1 ⟨vs, H1, I1, r1, q1⟩ => ?_) hs rfl))
  obtain ⟨a, xs, ex, q⟩ := q1
  subst ex
  cases r1 with
  | cons r rr =>
    cases rr
    cases r
    rcases q with ⟨hq, q⟩ | ⟨hq, q⟩
    · obtain ⟨its, rv, p', hz⟩ := I1.list hq
      refine call_enumerate_list p'.isList fun h' he hit hsz hk => wpAny_pyIter_enum he ?_
      have I2 : Inv X pins σ H1 { s1 with heap := h' } := I1.kept (t' := s1.toks) hk
      refine ⟨s1.heap.objs.size + 1, [s1.heap.objs.size + 1, s1.heap.objs.size], _, _, H1, rfl, I2, turn_enum a (s1.heap.objs.size + 1) s1.heap.objs.size, ⟨⟨.none, he⟩, hit, Nat.succ_ne_self _⟩, fun b hb => ?_, q⟩
      have e' : b = s1.heap.objs.size + 1 ∨ b = s1.heap.objs.size := by simpa using hb
      have hle : s1.heap.objs.size ≤ b := by
        rcases e' with z | z
        · rw [z]; exact Nat.le_add_right _ _
        · rw [z]; exact Nat.le_refl _
      exact I1.fpOk hle (I1.hok.fresh hle)
    · obtain ⟨its, rv, p', hz⟩ := I1.tuple hq
      refine enum_begins1 (begins_tuple a its.toArray) p' fun h' he hit hsz hk => wpAny_pyIter_enum he ?_
      have I2 : Inv X pins σ H1 { s1 with heap := h' } := I1.kept (t' := s1.toks) hk
      refine ⟨s1.heap.objs.size + 1, [s1.heap.objs.size + 1, s1.heap.objs.size], _, _, H1, rfl, I2, turn_enumT a (s1.heap.objs.size + 1) s1.heap.objs.size, ⟨⟨.none, he⟩, ⟨_, hit, rfl, rfl⟩, Nat.succ_ne_self _⟩, fun b hb => ?_, q⟩
      have e' : b = s1.heap.objs.size + 1 ∨ b = s1.heap.objs.size := by simpa using hb
      have hle : s1.heap.objs.size ≤ b := by
        rcases e' with z | z
        · rw [z]; exact Nat.le_add_right _ _
        · rw [z]; exact Nat.le_refl _
      exact I1.fpOk hle (I1.hok.fresh hle)
theorem serv_enumT {C : Ct} {Hk : Hp} {a : Addr} {xs : List D} {vs : List V} (h : Hk a = some (.tup vs)) (r : RpL C Hk xs vs) : Serv C (IteT C.K a) Hk (enumD 0 xs) := by
  intro i Hk1 H e1 e2
  have h1 : SqT C.K H a vs := sqT (e2 _ _ (e1 _ _ h))
  refine ⟨fun d hd => ?_, fun hi => ⟨vs, h1, by rw [enumD_len] at hi; rw [← r.len]; exact hi⟩⟩
  obtain ⟨x, hx, rfl⟩ := enumD_get hd
  obtain ⟨v, hv, rv⟩ := r.get hx
  refine ⟨⟨vs, v, h1, hv⟩, fun z H' hy => ?_⟩
  obtain ⟨T, u, rfl, hT, rfl, hu⟩ := hy
  have := hu vs h1
  rw [hv] at this
  cases this
  rw [Nat.zero_add]
  exact res_tup e2 hT (rpl2 rp_int (rv.mono e1))
def wEnumA : List D → Option (List D)
  | [.lst xs] => some (enumD 0 xs)
  | [.tup xs] => some (enumD 0 xs)
  | [.scr ns] => some (enumD 0 (ns.map .int))
  | _ => none
section
variable {X : Cx} {y : Y} {a b e : Expr} {es : List Expr} {m m1 m2 : M Tk} {ma : M (List Tk)} {pos p tpos : Pos} {k kk : Nat} {elts : List Expr}
theorem pix_enumA (hm : X.mg "enumerate" = none) (ha : PAs X y [e] ma) (hg : Gl X "enumerate" := by rfl) (hs : starEach [e] X.env = [(false, eval e X.env)] := by rfl) :
    PIx X y (.Tuple elts kk tpos) (.Call (.Name "enumerate" p) [e] [] pos) (mWalk wEnumA ma) := by
  refine ⟨PI_imp (pi_enumA hg hm ha.pa hs) fun σ H R ⟨env, Hk, G, re, q⟩ => ⟨env, Hk, G, re, ai_force q fun ds vs xs Hk' H1 hf ex rl qq => ?_⟩⟩
  unfold wEnumA at hf
  split at hf
  · cases hf
    obtain ⟨v, r, rfl, rd, rn⟩ := rl.inv
    have hr : r = [] := List.eq_nil_of_length_eq_zero rn.len.symm
    subst hr
    unfold Rp at rd
    obtain ⟨a, vs', rfl, h1, h2⟩ := rd
    exact ⟨a, vs', rfl, .inl ⟨sqL (ex _ _ h1), qq _ (serv_enum (C := y.ct X) (sqL h1) h2)⟩⟩
  · cases hf
    obtain ⟨v, r, rfl, rd, rn⟩ := rl.inv
    have hr : r = [] := List.eq_nil_of_length_eq_zero rn.len.symm
    subst hr
    unfold Rp at rd
    obtain ⟨a, vs', rfl, h1, h2⟩ := rd
    exact ⟨a, vs', rfl, .inr ⟨sqT (ex _ _ h1), qq _ (serv_enumT (C := y.ct X) h1 h2)⟩⟩
  · cases hf
    obtain ⟨v, r, rfl, rd, rn⟩ := rl.inv
    have hr : r = [] := List.eq_nil_of_length_eq_zero rn.len.symm
    subst hr
    unfold Rp at rd
    obtain ⟨a, rfl, h1⟩ := rd
    exact ⟨a, _, rfl, .inl ⟨ex_l ex h1, qq _ (serv_enum (C := y.ct X) h1 ints_rpl)⟩⟩
  · cases hf
/-! ### t.index(i), numbers -/
def rIxT (K : PySem.W.Frag) : V → List V → Hp → VK → Prop := fun x xs H Q => ∃ p, ∃ ys : List Int, ∃ z j, x = .ref p ∧ xs = [.int z] ∧ SqT K H p (ys.map V.int) ∧ ys[j]? = some z ∧ (∀ m, m < j → ys[m]? ≠ some z) ∧ Q (.int (j : Nat)) H
theorem flat_ints (ys : List Int) : (ys.map V.int).all flatV = true := by
  rw [List.all_map]
  exact List.all_eq_true.mpr fun _ _ => rfl
theorem mt_tup_ixI : MtR X "tuple.index" (rIxT X.K) := by
  intro pins s σ H x xs v us Q I rx rs h
  obtain ⟨p, ys, z, j, rfl, rfl, hq, hy, hno, q⟩ := h
  cases rx
  obtain ⟨u, rfl, t, rfl⟩ := vals1 rs
  obtain ⟨its, r, pl, hz⟩ := I.tuple hq
  obtain ⟨⟨cls, dd, dt, sl⟩, ho, hc, n, hd⟩ := pl
  simp only at hc hd
  subst hc
  subst hd
  have hl : its.toArray.size = ys.length := by rw [List.size_toArray, ← r.length, List.length_map]
  have hj : j < its.toArray.size := by rw [hl]; exact (List.getElem?_eq_some_iff.mp hy).1
  have at' : ∀ (m : Nat) (hm : m < its.toArray.size), ∃ y t', ys[m]? = some y ∧ its.toArray[m] = Value.int y t' := fun m hm => by
    have hm' : m < ys.length := by rw [← hl]; exact hm
    obtain ⟨w, hw, t', hw'⟩ := r.get (i := m) (x := .int ys[m]) (by simp [hm'])
    refine ⟨ys[m], t', List.getElem?_eq_getElem hm', ?_⟩
    have e := (List.getElem?_eq_some_iff.mp hw).2
    rw [← hw', ← e]
    simp
  refine call_meets PySem.F.slot_tuple_index ⟨_, ho, rfl⟩ PySem.F.entry_tuple_index (PySem.F.args_tuple_index_2 _ _) (TI.tuple_indexAt p its.toArray n dd sl (.int z t) (eqU (.int z)) j hj ?_ ?_)
    ⟨ho, fun w hw => mem_eqAt (x := .int z) ⟨t, rfl⟩ rfl r (flat_ints ys) w (by simpa using hw), ⟨.int (j : Nat), H, I.tok _, ⟨_, rfl⟩, q⟩⟩
  · obtain ⟨y, t', h1, h2⟩ := at' j hj
    rw [hy] at h1
    cases h1
    rw [h2]
    show (z == z) = true
    simp
  · intro m hm hmj
    obtain ⟨y, t', h1, h2⟩ := at' m hm
    rw [h2]
    show (y == z) = false
    have := hno m hmj
    rw [h1] at this
    simp
    intro e
    exact this (by rw [e])
end
end VM

set_option Elab.async false
set_option linter.all false
set_option maxRecDepth 100000
set_option maxHeartbeats 4000000
/-! VM O: isinstance of a caught error with attributes; any, all of numbers; t.index; the empty dict -/
namespace VM
open PySem PySem.Spec PyProof.Rows L2
/-! ### isinstance(raised, C) -/
section
variable {prog : Program} {w : World} {A : Around} {E : Value → Shared → Prop} {s : Shared} {K : PySem.W.Frag} {x C : Addr} {ox : Obj} {od : Option Obj}
theorem fo_data {n : Str} {a g : Value} (hc : (PySem.W.clsIn K C).isSome = true) (ha : PySem.W.findIn K (.ref C) n = some (some a)) (hg : PySem.W.specialIn K a "__get__" = some (some g)) (ht : PySem.W.takesIn K a = some true) : PySem.W.findObj K C od n = some (.bind g a) := by
  cases h : PySem.W.clsIn K C with
  | none => rw [h] at hc; cases hc
  | some cd => simp only [PySem.W.findObj, h, ha, hg, ht, Option.bind_some]
/-- e.__class__ is its class -/
theorem class_at {Q : Option Value → Shared → Prop} (B : ExcC K C) (X : K.In s.heap) (I : PySem.W.InstAt s.heap x ox C od) (q : Q (some (.ref C)) { s with toks := s.toks + 1 }) : wpAny (model prog w) A (getAttr? (.ref x) "__class__") Q E s := by
  have cs : (PySem.W.clsIn K C).isSome = true := by
    obtain ⟨cd, e, _⟩ := PySem.W.any_some B.hd
    rw [e]; rfl
  have fo := fo_data (od := od) (n := "__class__") cs B.ha B.hn B.ht
  have gb : ((Value.builtin "BaseException.__getattribute__") == Value.builtin "object.__getattribute__") = false := by decide +kernel
  have gc : (onTheHeap (Value.ref C) && Value.builtin "BaseException.__getattribute__" == Value.builtin "object.__getattribute__") = false := by rw [gb, Bool.and_false]
  cases s with
  | mk hp g d t os =>
  have ty := I.type (M := model prog w)
  have l1 := PySem.W.looks_findIn (M := model prog w) X B.hg
  have l2 := PySem.W.looks_findIn (M := model prog w) X B.hk
  have l3 := PySem.W.looks_find (M := model prog w) X I fo
  have isb : PySem.W.Looks (model prog w) hp (isInstance (.ref x) (.type "BaseException")) true := ty.andThen (PySem.W.looks_subIn X B.hs)
  unfold getAttr? getAttrBy? getAttrBy
  refine wpAny_bind (wpAny_mkText (wpAny_bind (wpAny_attempt (wpAny_holding (wpAny_bind (ty.at (wpAny_bind (l1.at ?_))))))))
  show wpAny _ _ (ite (_ = true) _ _) _ _ _
  rw [gc, if_neg (by simp)]
  unfold getAttrByItsOwn hookBefore
  apply wpAny_bind
  rw [if_pos (by rfl)]
  apply l2.at
  apply wpAny_bind
  apply wpAny_attempt
  apply wpAny_holding
  unfold callGetattribute
  rw [show (false && onTheHeap (Value.builtin "BaseException.__getattribute__")) = false from rfl, if_neg (by simp)]
  unfold boundAndCalled
  rw [F.excAttr_ValueError.ga.bind (.ref x)]
  apply wpAny_bind
  apply wpAny_pure
  show wpAny _ _ (call (.builtin "BaseException.__getattribute__") [.ref x, .str "__class__" t]) _ _ _
  apply wpAny_call
  refine codeAny_call_builtin F.excAttr_ValueError.ga.plain F.entry_bexc_ga ?_
  refine @PySem.W.check_slot (model prog w) _ _ ⟨hp, g, d, t + 1, os⟩ "BaseException.__getattribute__" "BaseException" "__getattribute__" (.ref x) [.str "__class__" t] [] _ (by decide +kernel) (by decide +kernel) isb (F.args_bexc_ga _ _) ?_
  unfold Builtin.«object.__getattribute__»
  refine wpAny_bind (wpAny_of_eq (a := ((Value.ref x : Value), [Value.str "__class__" t])) (by first | rfl | (simp only [slotArgs]; rfl)) ?_)
  apply wpAny_bind
  apply wpAny_pure
  apply wpAny_bind
  apply ty.at
  apply wpAny_bind
  apply l3.at
  show wpAny _ _ (holding [Value.builtin "object.__class__"] (call (.builtin "getset_descriptor.__get__") [.builtin "object.__class__", .ref x, .ref C]) >>= ret) _ _ _
  refine wpAny_bind (wpAny_holding (wpAny_call (PySem.W.class_get (s := ⟨hp, g, d, t + 1, os⟩) (ox := ox) (od := od) X I B.hm ?_)))
  apply wpAny_pure
  show wpAny _ _ (handedOut (.ref C)) _ _ _
  rw [PySem.W.handedOut_of (v := .ref C) rfl]
  first
    | exact wpAny_pure (wpAny_pure q)
    | exact wpAny_pure q
    | exact wpAny_pure (wpAny_bind (wpAny_pure (wpAny_pure q)))
/-- an error at hand, asked for its class -/
theorem kit_err (B : ExcC K C) : PySem.W.KitX K (.ref x) (.ref C) (fun h => PySem.W.InstAt h x ox C od) := by
  obtain ⟨cd, hcd, _⟩ := PySem.W.any_some B.hd
  have sp : ∃ a b u, K.lookup C = some ⟨a, b, .cls cd, u⟩ := by
    unfold PySem.W.clsIn at hcd
    split at hcd
    · rename_i a b cd' u ho
      cases hcd
      exact ⟨a, b, u, ho⟩
    · cases hcd
  obtain ⟨a, b, u, ho⟩ := sp
  constructor
  · exact fun _ _ _ I => I.type
  · intro M h X _ A' Q' E' s' k q
    unfold isType loadHead
    exact wpAny_bind (wpAny_loadPart (k _ _ (X _ _ ho)) (wpAny_pure q))
  · intro h tp dd its n sl X htp
    apply Bool.eq_false_iff.mpr
    intro q
    cases Value.ref.inj (beq_iff_eq.mp q)
    have z := (X _ _ ho).symm.trans htp
    cases z
  · exact fun X I q => class_at B X I q
end
def rIsX (K : PySem.W.Frag) (a : Addr) (cls : Value) (d : Option Addr) : List V → Hp → VK → Prop := fun xs H Q => ∃ (c : V) (cv : Value) (C : Addr) (b : Bool), xs = [.ref a, c] ∧ ClsV c cv ∧ cls = .ref C ∧ ExcC K C ∧ (∀ dd, d = some dd → ∃ fs, H dd = some (.xd fs)) ∧ PySem.W.kitOne K (.ref C) cv = some b ∧ Q (.bl b) H
theorem call_isX {X : Cx} {a : Addr} {cls : Value} {d : Option Addr} {oe : Obj} {pn : List (Addr × Obj)} (hz : Zc cls d oe) (hf : ∃ vs, oe.data = .fields vs) : CallR (X.suite a ((a, oe) :: pn)) (.builtin "isinstance") (rIsX X.K a cls d) := by
  intro pins s σ H xs us Q I r h
  obtain ⟨c, cv, C, b, rfl, hcv, rfl, B, hd, e, q⟩ := h
  cases r with
  | cons rx rr =>
    cases rr with
    | cons rt rr =>
      cases rr
      cases rx
      have ec : _ = cv := hcv.eq rt
      subst ec
      obtain ⟨hget, _⟩ := I.pin (a, oe) (List.mem_append.mpr (.inl List.mem_cons_self))
      obtain ⟨vs, hv⟩ := hf
      have nc : PySem.W.notCls oe = true := by unfold PySem.W.notCls; rw [hv]
      have J : ∃ od, PySem.W.InstAt s.heap a oe C od := by
        cases d with
        | none => exact ⟨none, hget, hz.1, nc, by rw [hz.2]; trivial⟩
        | some dd =>
          obtain ⟨fs, hfs⟩ := hd dd rfl
          obtain ⟨mA, hns, hr⟩ : ObjOk X.prog X.w H s.heap dd (.xd fs) := I.hok dd _ hfs
          obtain ⟨od, ho, _⟩ := lookIn_ns hns
          exact ⟨some od, hget, hz.1, nc, by rw [hz.2]; exact ho⟩
      obtain ⟨od, J⟩ := J
      exact PySem.W.kia_one (kit_err B) I.kIn J e (fun z => nomatch z) fun tk => ⟨.bl b, H, I.kept (t' := tk) fun _ _ z => z, rfl, q⟩
/-- isinstance(e, c), e the name of slot i that holds the error at hand -/
def mIsX (sub : Nat → D → Option Bool) (i : Nat) (mc : M Tk) : M Tk := fun env => match env[i]? with
  | some (.xv _ _ _) => mBind mc (fun t env => match env[i]? with
    | some (.xv c _ _) => match look t env with
      | some d => if isT d = true then mOf ((sub c d).map fun b => .val (.bl b)) env else .bad
      | none => .bad
    | _ => .bad) env
  | _ => .bad
structure SubK (K : PySem.W.Frag) (cm : Nat → Addr) (sub : Nat → D → Option Bool) : Prop where
  ok : ∀ c k b cv, sub c k = some b → valT cm k = some cv → PySem.W.kitOne K (.ref (cm c)) cv = some b
  xc : ∀ c k b, sub c k = some b → ExcC K (cm c)
theorem px_isX {X : Cx} {y : Y} {a : Addr} {oe : Obj} {cls : Value} {d : Option Addr} {pn : List (Addr × Obj)} {i : Nat} {p p2 pos : Pos} {x : Str} {c : Expr} {mc : M Tk} {sub : Nat → D → Option Bool} (S : SubK X.K y.cm sub) (hz : Zc cls d oe) (hf : ∃ vs, oe.data = .fields vs)
    (hm : X.mg "isinstance" = none) (he : PE (X.suite a ((a, oe) :: pn)) (.Name x p) (tVar i)) (hc : PX (X.suite a ((a, oe) :: pn)) (ySu y a cls d) c mc)
    (hg : Gl X "isinstance" := by rfl) (hs : starEach [.Name x p, c] X.env = (false, eval (.Name x p) X.env) :: starEach [c] X.env := by rfl) (hs2 : starEach [c] X.env = [(false, eval c X.env)] := by rfl) (hpl : (backTo pos (starEach [c] X.env)).any (·.1) = false := by rfl) :
    PX (X.suite a ((a, oe) :: pn)) (ySu y a cls d) (.Call (.Name "isinstance" p2) [.Name x p, c] [] pos) (mIsX sub i mc) := by
  refine ⟨PE_imp (pe_callB (X := X.suite a ((a, oe) :: pn)) (call_isX hz hf) hg hm (by decide +kernel) (pa_cons he (pa_cons hc.pe pa_nil hs2) hs) (he := hs) (hpl := hpl)) fun σ H Q ⟨env, Hk, G, re, q⟩ => ?_⟩
  unfold mIsX at q
  cases z : env[i]? with
  | none => rw [z] at q; exact q.elim
  | some s =>
    rw [z] at q
    cases s with
    | no => exact q.elim
    | sh _ => exact q.elim
    | ow _ => exact q.elim
    | xv k ns ds =>
      dsimp only at q
      obtain ⟨a', cls', dd, e, hσ, _⟩ := re.xv i k ns ds z
      cases e
      refine ⟨.ref a, hσ, env, Hk, G, re, po_bind q fun t e1 v Hk1 H1 k1 r1 rt q1 => ?_⟩
      cases z1 : e1[i]? with
      | none => rw [z1] at q1; exact q1.elim
      | some s1 =>
        rw [z1] at q1
        cases s1 with
        | no => exact q1.elim
        | sh _ => exact q1.elim
        | ow _ => exact q1.elim
        | xv k ns ds =>
          obtain ⟨a2, cls2, dd2, e2, _, rx⟩ := r1.xv i k ns ds z1
          cases e2
          cases zl : look t e1 with
          | none => rw [zl] at q1; exact q1.elim
          | some dv =>
            rw [zl] at q1
            dsimp only at q1
            by_cases ht : isT dv = true
            · rw [if_pos ht] at q1
              cases zs : sub k dv with
              | none => rw [zs] at q1; exact q1.elim
              | some b =>
                rw [zs] at q1
                obtain ⟨cv, hcv, hv⟩ := isT_v (K := X.K) (cm := y.cm) ht ((rt.look r1 zl).all r1.hk)
                refine ⟨v, cv, y.cm k, b, rfl, hv, rx.1, S.xc k dv b zs, fun dd' hd' => ?_, S.ok k dv b cv zs hcv, q1 _ Hk1 H1 (Kx.refl _ _) r1 (rp_bl (C := (ySu y a cls d).ct (X.suite a ((a, oe) :: pn))) (H := Hk1))⟩
                rcases rx.2 with ⟨_, _, h3⟩ | ⟨d1, vs, h1, h2, _⟩
                · rw [h3] at hd'; cases hd'
                · rw [h1] at hd'; cases hd'; exact ⟨_, h2⟩
            · rw [if_neg ht] at q1; exact q1.elim
/-! ### any, all of numbers -/
def truI : D → Option Bool
  | .int i => some (i != 0)
  | .bl b => some b
  | _ => none
def truIs : List D → Option (List Bool)
  | [] => some []
  | d :: ds => match truI d, truIs ds with
    | some b, some bs => some (b :: bs)
    | _, _ => none
/-- a value that says b -/
def TrV (b : Bool) (v : V) : Prop := v = .bl b ∨ ∃ i : Int, v = .int i ∧ (i != 0) = b
theorem truIs_v {C : Ct} {H : Hp} : ∀ {ds : List D} {vs : List V} {bs : List Bool}, truIs ds = some bs → RpL C H ds vs → Paired TrV bs vs
  | [], _, _, h, r => by
    cases h; unfold RpL at r; subst r; exact .nil
  | d :: ds, _, bs, h, r => by
    obtain ⟨v, vr, rfl, r1, r2⟩ := r.inv
    unfold truIs at h
    cases z1 : truI d with
    | none => rw [z1] at h; cases h
    | some b =>
      cases z2 : truIs ds with
      | none => rw [z1, z2] at h; cases h
      | some bs' =>
        rw [z1, z2] at h
        cases h
        refine .cons ?_ (truIs_v z2 r2)
        cases d with
        | int i => cases z1; unfold Rp at r1; exact .inr ⟨i, r1, rfl⟩
        | bl k => cases z1; unfold Rp at r1; exact .inl r1
        | _ => cases z1
theorem Paired.at {α β : Type} {R : α → β → Prop} : ∀ {xs : List α} {ys : List β} {i : Nat} {y : β}, Paired R xs ys → ys[i]? = some y → ∃ x, xs[i]? = some x ∧ R x y
  | _, _, _, _, .nil, h => by cases h
  | _, _, 0, _, .cons h _, e => by cases e; exact ⟨_, rfl, h⟩
  | _, _, i + 1, _, .cons _ t, e => by simpa using Paired.at t (by simpa using e)
theorem truth_num {prog : Program} {w : World} {A : Around} {bs : List Bool} {vs : List V} {its : List Value} (p : Paired TrV bs vs) (r : Vals vs its) :
    TruthOf prog w A (fun i v => its.toArray[i]? = some v) (fun i => bs.getD i false) := fun i v s Q E hv hq => by
  have hv' : its[i]? = some v := by simpa using hv
  obtain ⟨x, hx, rx⟩ := Paired.at r hv'
  obtain ⟨b, hb, tb⟩ := Paired.at p hx
  have hg : bs.getD i false = b := by rw [List.getD_eq_getElem?_getD, hb]; rfl
  have hq : Q (bs.getD i false) s := hq
  rw [hg] at hq
  rcases tb with rfl | ⟨k, rfl, hk⟩
  · obtain rfl : v = Value.bool b := rx
    exact wpAny_truthy_bool hq
  · obtain ⟨t, rfl⟩ := rx
    exact P.truthy_int (by rw [hk]; exact hq)
section
variable {X : Cx} {y : Y}
def rAnyN (K : PySem.W.Frag) : List V → Hp → VK → Prop := fun vs H Q => ∃ (a : Addr) (bs : List Bool) (xs : List V), vs = [V.ref a] ∧ (SqL K H a xs ∨ SqT K H a xs) ∧ Paired TrV bs xs ∧ Q (.bl (bs.any id)) H
def rAllN (K : PySem.W.Frag) : List V → Hp → VK → Prop := fun vs H Q => ∃ (a : Addr) (bs : List Bool) (xs : List V), vs = [V.ref a] ∧ (SqL K H a xs ∨ SqT K H a xs) ∧ Paired TrV bs xs ∧ Q (.bl (bs.all id)) H
theorem iter_tup {prog : Program} {w : World} {A : Around} {E : Value → Shared → Prop} {s : Shared} {l : Addr} {items : Array Value} {Q : Value → Shared → Prop} (hl : s.heap.IsTuple l items)
    (h : ∀ s₂ : Shared, s₂ = { s with heap := s.heap.push { cls := .type "tuple_iterator", data := .fields #[.ref l, .int 0 0] } } →
      (s₂.heap.IsTupleIter s.heap.objs.size l 0 ∧ s₂.heap.IsTuple l items) → l ≠ s.heap.objs.size → Q (.ref s.heap.objs.size) s₂) : wpAny (model prog w) A (pyIter (.ref l)) Q E s := by
  have hlt : l < s.heap.objs.size := by obtain ⟨_, e, _⟩ := hl; exact Heap.lt_size e
  exact wpAny_pyIter_tuple hl (h _ rfl ⟨⟨_, Heap.get?_push_size _ rfl, rfl, rfl⟩, hl.at fun o e => Heap.get?_push_of_some _ e⟩ (Nat.ne_of_lt hlt))
theorem cr_anyN (hc : X.calm = true) : CallR X (.builtin "any") (rAnyN X.K) := by
  intro pins s σ H vs us Q I r h
  obtain ⟨a, bs, xs, rfl, hs, hp, q⟩ := h
  rw [Vals.ref1 r]
  have fin : ∀ {its : List Value} {h' : Heap} {tk : Nat} {o : Obj}, Vals xs its → (∀ b ob, b ∉ [s.heap.objs.size] → (s.heap.push o).get? b = some ob → h'.get? b = some ob) → EP X pins σ Q (.bool ((List.range its.toArray.size).any fun i => bs.getD i false)) { s with heap := h', toks := tk } := by
    intro its h' tk o rv hk
    refine ⟨.bl _, H, I.kept fun b ob eo => hk b ob (fun hmem => ?_) (Heap.get?_push_of_some _ eo), ?_, q⟩
    · rw [List.mem_singleton.mp hmem] at eo
      exact absurd (Heap.lt_size eo) (Nat.lt_irrefl _)
    · show Value.bool _ = Value.bool _
      rw [← L2.any_range, List.size_toArray, ← rv.length, ← Paired.length hp]
  rcases hs with hs | hs
  · obtain ⟨its, rv, hl, _⟩ := I.list hs
    refine call_any_walk (iter_any hl.isList fun s₂ e2 st hne => ?_)
    subst e2
    exact ⟨_, _, _, _, _, _, _, rfl, Walks.list (A := X.A.in1) (I.ok.hd hc) _ a hne its.toArray, st, truth_num hp rv, fun h' tk hk => fin rv hk⟩
  · obtain ⟨its, rv, hl, _⟩ := I.tuple hs
    refine call_any_walk (iter_tup hl fun s₂ e2 st hne => ?_)
    subst e2
    exact ⟨_, _, _, _, _, _, _, rfl, Walks.tuple (A := X.A.in1) (I.ok.hd hc) _ a hne its.toArray, st, truth_num hp rv, fun h' tk hk => fin rv hk⟩
theorem cr_allN (hc : X.calm = true) : CallR X (.builtin "all") (rAllN X.K) := by
  intro pins s σ H vs us Q I r h
  obtain ⟨a, bs, xs, rfl, hs, hp, q⟩ := h
  rw [Vals.ref1 r]
  have fin : ∀ {its : List Value} {h' : Heap} {tk : Nat} {o : Obj}, Vals xs its → (∀ b ob, b ∉ [s.heap.objs.size] → (s.heap.push o).get? b = some ob → h'.get? b = some ob) → EP X pins σ Q (.bool ((List.range its.toArray.size).all fun i => bs.getD i false)) { s with heap := h', toks := tk } := by
    intro its h' tk o rv hk
    refine ⟨.bl _, H, I.kept fun b ob eo => hk b ob (fun hmem => ?_) (Heap.get?_push_of_some _ eo), ?_, q⟩
    · rw [List.mem_singleton.mp hmem] at eo
      exact absurd (Heap.lt_size eo) (Nat.lt_irrefl _)
    · show Value.bool _ = Value.bool _
      rw [← L2.all_range, List.size_toArray, ← rv.length, ← Paired.length hp]
  rcases hs with hs | hs
  · obtain ⟨its, rv, hl, _⟩ := I.list hs
    refine call_all_walk (iter_any hl.isList fun s₂ e2 st hne => ?_)
    subst e2
    exact ⟨_, _, _, _, _, _, _, rfl, Walks.list (A := X.A.in1) (I.ok.hd hc) _ a hne its.toArray, st, truth_num hp rv, fun h' tk hk => fin rv hk⟩
  · obtain ⟨its, rv, hl, _⟩ := I.tuple hs
    refine call_all_walk (iter_tup hl fun s₂ e2 st hne => ?_)
    subst e2
    exact ⟨_, _, _, _, _, _, _, rfl, Walks.tuple (A := X.A.in1) (I.ok.hd hc) _ a hne its.toArray, st, truth_num hp rv, fun h' tk hk => fin rv hk⟩
def dAnyN : D → Option Tk
  | .lst xs => (truIs xs).map fun bs => .val (.bl (bs.any id))
  | .tup xs => (truIs xs).map fun bs => .val (.bl (bs.any id))
  | _ => none
def dAllN : D → Option Tk
  | .lst xs => (truIs xs).map fun bs => .val (.bl (bs.all id))
  | .tup xs => (truIs xs).map fun bs => .val (.bl (bs.all id))
  | _ => none
theorem anyN_ok : OpN X y (fn1 dAnyN) (rAnyN X.K) := op1N (by
  intro Hk H d v t Q e h pa q
  cases d <;> simp only [dAnyN] at h <;> first
    | (cases h; done)
    | (rename_i xs
       cases z : truIs xs with
       | none => rw [z] at h; cases h
       | some ns =>
         rw [z] at h
         cases h
         first
           | (obtain ⟨a, vs, rfl, h1, h2⟩ := pa.lst e
              exact ⟨a, ns, vs, rfl, .inl (sqL h1), truIs_v z h2, q _ _ (res_flat rp_bl e)⟩)
           | (obtain ⟨a, vs, rfl, h1, h2, _⟩ := pa.tup e
              exact ⟨a, ns, vs, rfl, .inr (sqT h1), truIs_v z h2, q _ _ (res_flat rp_bl e)⟩)))
theorem allN_ok : OpN X y (fn1 dAllN) (rAllN X.K) := op1N (by
  intro Hk H d v t Q e h pa q
  cases d <;> simp only [dAllN] at h <;> first
    | (cases h; done)
    | (rename_i xs
       cases z : truIs xs with
       | none => rw [z] at h; cases h
       | some ns =>
         rw [z] at h
         cases h
         first
           | (obtain ⟨a, vs, rfl, h1, h2⟩ := pa.lst e
              exact ⟨a, ns, vs, rfl, .inl (sqL h1), truIs_v z h2, q _ _ (res_flat rp_bl e)⟩)
           | (obtain ⟨a, vs, rfl, h1, h2, _⟩ := pa.tup e
              exact ⟨a, ns, vs, rfl, .inr (sqT h1), truIs_v z h2, q _ _ (res_flat rp_bl e)⟩)))
variable {e b : Expr} {es : List Expr} {m m1 m2 : M Tk} {ma : M (List Tk)} {pos p apos : Pos} {k kk : Nat}
theorem px_anyN (hc : X.calm = true) (hm : X.mg "any" = none) (ha : PAs X y [e] ma) (hg : Gl X "any" := by rfl) (he : starEach [e] X.env = (false, eval e X.env) :: starEach [] X.env := by rfl) : PX X y (.Call (.Name "any" p) [e] [] pos) (mCall (fn1 dAnyN) ma) := px_blt (cr_anyN hc) anyN_ok hg hm (by decide +kernel) ha (he := he)
theorem px_allN (hc : X.calm = true) (hm : X.mg "all" = none) (ha : PAs X y [e] ma) (hg : Gl X "all" := by rfl) (he : starEach [e] X.env = (false, eval e X.env) :: starEach [] X.env := by rfl) : PX X y (.Call (.Name "all" p) [e] [] pos) (mCall (fn1 dAllN) ma) := px_blt (cr_allN hc) allN_ok hg hm (by decide +kernel) ha (he := he)
/-! ### {} -/
def mNewD : M Tk := fun env => .ok (.new (.dic [] [])) env
theorem px_newD : PX X y (.Dict [] [] pos) mNewD := ⟨PE_imp pe_dnewT fun σ H Q ⟨env, Hk, G, re, q⟩ p hp => by
  refine q (.ref p) Hk _ (Kx.refl _ _) (re.ext (Ex.new hp)) ⟨p, rfl, re.hk.back hp, ⟨re.g.back hp, [], upd_same, rfl, .nil⟩, fun i d' hi hs => ?_⟩
  obtain ⟨_, oa⟩ := re.owAt hi hs
  obtain ⟨u, hu, _⟩ := oa.at
  rw [hp] at hu
  cases hu⟩
/-! ### t.index(i) -/
def idxI (z : Int) : List Int → Option Nat
  | [] => none
  | x :: xs => if x = z then some 0 else (idxI z xs).map (· + 1)
theorem idxI_at {z : Int} : ∀ {xs : List Int} {j : Nat}, idxI z xs = some j → xs[j]? = some z ∧ ∀ m, m < j → xs[m]? ≠ some z
  | [], _, h => by cases h
  | x :: xs, j, h => by
    unfold idxI at h
    split at h
    · rename_i e
      cases h
      exact ⟨by rw [e]; rfl, fun m hm => absurd hm (Nat.not_lt_zero _)⟩
    · rename_i e
      cases z1 : idxI z xs with
      | none => rw [z1] at h; cases h
      | some i =>
        rw [z1] at h
        cases h
        obtain ⟨h1, h2⟩ := idxI_at z1
        refine ⟨by simpa using h1, fun m hm => ?_⟩
        cases m with
        | zero => simpa using e
        | succ m => simpa using h2 m (Nat.lt_of_succ_lt_succ hm)
/-- o.index(i), o a tuple of numbers that was made by tuple(list) -/
def dIndex : D → D → Option Tk
  | .tupf xs, .int z => match toInts xs with
    | some ns => (idxI z ns).map fun j => .val (.int (j : Nat))
    | none => none
  | _, _ => none
def mIndex (m1 m2 : M Tk) : M Tk := mBind m1 fun t1 env => match look t1 env with
  | some (.tupf xs) => mBind m2 (fun t2 env => match look t2 env with
    | some d2 => mOf (dIndex (.tupf xs) d2) env
    | none => .bad) env
  | _ => .bad
/-- the tuple's own record is known -/
def tTI (K : PySem.W.Frag) (to tb : TE) : TE := fun σ H Q => to σ H fun x H1 => (∃ p o ys, x = .ref p ∧ H1 p = some (.frz o (.tup ys)) ∧ o.cls = .type "tuple" ∧ o.dict = none) ∧ tb σ H1 fun z H2 => rIxT K x [z] H2 Q
theorem pe_ixF {to tb : TE} (ho : PE X e to) (hi : PE X b tb) (hbase : attributeBase e "index" X.env (eval e X.env) = eval e X.env) (hline : (apos.endLine == pos.line) = true) (hs : starEach [b] X.env = [(false, eval b X.env)])
    (hfew : ((backTo pos (starEach [b] X.env)).all (fun x => !x.1) && (backToKw pos (keywordEach [] X.env)).all (fun x => x.1.isSome)
      && decide (([b] : List Expr).length + ([] : List Keyword).length + (if ([] : List Keyword).isEmpty then 0 else 1) < 30)) = true) : PE X (.Call (.Attribute e "index" apos) [b] [] pos) (tTI X.K to tb) := by
  constructor
  intro pins s σ H Q I h
  apply wpAny_Call_method_late hbase hfew hline rfl
  apply thn (ho.run pins s σ H _ I h)
  rintro v s1 ⟨x, H1, I1, r1, ⟨p, o, ys, rfl, hp, hc, hd⟩, q1⟩
  obtain rfl : v = Value.ref p := r1
  have hg : s1.heap.get? p = some o := (show ObjOk X.prog X.w H1 s1.heap p (.frz o (.tup ys)) from I1.hok p _ hp).1
  refine ⟨"tuple", "tuple.index", F.plainAttrs_tuple, F.slot_tuple_index, F.type_tuple_index, ⟨o, hg, hc⟩, fun a e => by cases e; exact ⟨o, hg, hd⟩, ?_⟩
  have run := (pa_cons hi pa_nil (by rw [hs]; rfl)).run pos pins s1 σ H1 (fun xs H2 => rIxT X.K (.ref p) xs H2 Q) I1 q1
  rw [hs] at run ⊢
  exact Calls.callWith_builtin rfl (Calls.evalArgs_plain (thn run fun us s2 ⟨vs, H2, I2, r2, q2⟩ => mt_tup_ixI pins s2 σ H2 (.ref p) vs (.ref p) us Q I2 rfl r2 q2))
theorem px_index (ho : PX X y e m1) (ha : PX X y b m2) (hbase : attributeBase e "index" X.env (eval e X.env) = eval e X.env := by rfl) (hline : (apos.endLine == pos.line) = true := by rfl) (hs : starEach [b] X.env = [(false, eval b X.env)] := by rfl)
    (hfew : ((backTo pos (starEach [b] X.env)).all (fun x => !x.1) && (backToKw pos (keywordEach [] X.env)).all (fun x => x.1.isSome)
      && decide (([b] : List Expr).length + ([] : List Keyword).length + (if ([] : List Keyword).isEmpty then 0 else 1) < 30)) = true := by rfl) :
    PX X y (.Call (.Attribute e "index" apos) [b] [] pos) (mIndex m1 m2) := by
  refine ⟨PE_imp (pe_ixF ho.pe ha.pe hbase hline hs hfew) fun σ H Q ⟨env, Hk, G, re, q⟩ => ⟨env, Hk, G, re, ?_⟩⟩
  unfold mIndex at q
  refine po_bind q fun t1 e1 v Hk1 H1 k1 r1 rt1 q1 => ?_
  cases z1 : look t1 e1 with
  | none => rw [z1] at q1; exact q1.elim
  | some d1 =>
    rw [z1] at q1
    have pk := rt1.look r1 z1
    cases d1 with
    | tupf xs =>
      dsimp only at q1
      obtain ⟨p, o, vs, rfl, h1, h2, h3, h4⟩ : ∃ p o vs, v = .ref p ∧ Hk1 p = some (.frz o (.tup vs)) ∧ o.cls = .type "tuple" ∧ o.dict = none ∧ RpL (y.ct X) Hk1 xs vs := by
        rcases pk with h | ⟨_, _, _, h⟩
        · unfold Rp at h; exact h
        · exact h.elim
      refine ⟨⟨p, o, vs, rfl, r1.hk _ _ h1, h2, h3⟩, e1, Hk1, G, r1, po_bind q1 fun t2 e2 w Hk2 H2 k2 r2 rt2 q2 => ?_⟩
      cases z2 : look t2 e2 with
      | none => rw [z2] at q2; exact q2.elim
      | some d2 =>
        rw [z2] at q2
        have pk2 := rt2.look r2 z2
        cases d2 with
        | int z =>
          dsimp only [dIndex] at q2
          have ew := pk2.int
          subst ew
          cases zi : toInts xs with
          | none => rw [zi] at q2; exact q2.elim
          | some ns =>
            rw [zi] at q2
            dsimp only at q2
            cases zj : idxI z ns with
            | none => rw [zj] at q2; exact q2.elim
            | some j =>
              rw [zj] at q2
              obtain ⟨g1, g2⟩ := idxI_at zj
              have h4' := h4.mono k2.ex
              rw [toInts_eq zi] at h4'
              have ev := rpl_ints h4'
              refine ⟨p, ns, z, j, rfl, rfl, .inl (.inr ⟨o, ?_⟩), g1, g2, q2 _ Hk2 H2 (Kx.refl _ _) r2 (rp_int (C := y.ct X) (H := Hk2))⟩
              rw [← ev]
              exact r2.hk _ _ (k2.ex _ _ h1)
        | _ => exact q2.elim
    | _ => exact q1.elim
/-! ### tuple(list), its record known -/
theorem call_tupF : CallR X (.type "tuple") (fun xs H Q => ∃ p ys, xs = [.ref p] ∧ SqL X.K H p ys ∧ ∀ l o, H l = none → o.cls = .type "tuple" → o.dict = none → Q (.ref l) (upd H l (.frz o (.tup ys)))) := by
  intro pins s σ H xs us Q I r h
  obtain ⟨p, ys, rfl, hq, q⟩ := h
  obtain ⟨u, rfl, rx⟩ := vals1 r
  cases rx
  obtain ⟨its, rv, pl, hz⟩ := I.list hq
  have hlen := rv.length
  refine call_tuple_list pl.isList (fun h' kp => ?_) (by simp only [List.size_toArray]; omega)
  have J : Inv X pins σ H { s with heap := h' } := I.kept (t' := s.toks) kp
  have fresh := J.hok.fresh (Nat.le_refl h'.objs.size)
  have new : ObjOk X.prog X.w (upd H h'.objs.size (.frz { cls := .type "tuple", data := .seq its.toArray } (.tup ys))) (h'.push { cls := .type "tuple", data := .seq its.toArray }) h'.objs.size (.frz { cls := .type "tuple", data := .seq its.toArray } (.tup ys)) :=
    ⟨Heap.get?_push_size _ rfl, hz, its, rv, IsTup.new _ _⟩
  exact ⟨.ref h'.objs.size, _, J.laid (t' := s.toks) (fun b o e => Heap.get?_push_of_some _ e) (Nat.le_refl _) new, rfl, q _ _ fresh rfl rfl⟩
def dTupleF : D → Option Tk
  | .lst xs => some (.val (.tupf xs))
  | _ => none
theorem tupF_ok : OpN X y (fn1 dTupleF) (fun xs H Q => ∃ p ys, xs = [.ref p] ∧ SqL X.K H p ys ∧ ∀ l o, H l = none → o.cls = .type "tuple" → o.dict = none → Q (.ref l) (upd H l (.frz o (.tup ys)))) := op1N (by
  intro Hk H d v t Q e h pa q
  cases d <;> simp only [dTupleF] at h <;> first
    | (cases h; done)
    | (cases h
       obtain ⟨a, vs, rfl, h1, h2⟩ := pa.lst e
       refine ⟨a, vs, rfl, sqL h1, fun l o hl hc hd => q _ _ ?_⟩
       have e1 : Ex Hk (upd Hk l (.frz o (.tup vs))) := Ex.new (e.back hl)
       refine ⟨Ex.new hl, upd Hk l (.frz o (.tup vs)), ⟨e1, fun b u g1 g2 => ?_⟩, Ex.updB (e.trans (Ex.new hl)) upd_same, ?_⟩
       · by_cases z : b = l
         · rw [z]; exact hl
         · rw [upd_ne z, g2] at g1; cases g1
       · unfold Rp
         exact ⟨l, o, vs, rfl, upd_same, hc, hd, h2.mono e1⟩))
theorem px_tupleF (hm : X.mg "tuple" = none) (ha : PAs X y [e] ma) (hg : Gl X "tuple" := by rfl) (he : starEach [e] X.env = (false, eval e X.env) :: starEach [] X.env := by rfl) : PX X y (.Call (.Name "tuple" p) [e] [] pos) (mCall (fn1 dTupleF) ma) := px_typ call_tupF tupF_ok hg hm (by decide +kernel) ha (he := he)
end
end VM

set_option Elab.async false
set_option linter.all false
set_option maxRecDepth 100000
set_option maxHeartbeats 1000000
/-! VM P: own classes, what the written part must say; isinstance of own classes -/
namespace VM
open PySem PySem.Spec PyProof.Rows L2
section
variable {K : PySem.W.Frag} {C f : Addr} {cm : Nat → Addr}
def clB (K : PySem.W.Frag) (C : Addr) (fs : List Str) : Bool := PySem.W.plainGet K C Str.empty && (PySem.W.hasDictIn K C && (PySem.W.plainOver K C &&
  (decide (PySem.W.findIn K (.ref C) "__setattr__" = some (some (.builtin "object.__setattr__"))) && fs.all fun f => decide (PySem.W.findIn K (.ref C) f = some none))))
theorem clB_ok {fs : List Str} (h : clB K C fs = true) : Cls K C ∧ ∀ f ∈ fs, NoAttr K C f := by
  unfold clB at h
  simp only [Bool.and_eq_true, decide_eq_true_eq] at h
  obtain ⟨h1, h2, h3, h4, h5⟩ := h
  exact ⟨⟨h1, h2, h3, h4⟩, fun f hf => show PySem.W.findIn K (.ref C) f = some none from of_decide_eq_true (List.all_eq_true.mp h5 f hf)⟩
def mkB (K : PySem.W.Frag) (C f : Addr) : Bool := PySem.W.makesIn K C && (PySem.W.isFn K (.ref f) && PySem.W.keepIn K (.ref C))
theorem mkB_ok (i : PySem.W.findIn K (.ref C) "__init__" = some (some (.ref f))) (h : mkB K C f = true) : Mk K C f := by
  unfold mkB at h
  simp only [Bool.and_eq_true] at h
  exact ⟨h.1, i, h.2.1, h.2.2⟩
theorem me_ok {m : Str} (i : PySem.W.findIn K (.ref C) m = some (some (.ref f))) (h : PySem.W.isFn K (.ref f) = true) (k : PySem.W.keepIn K (.ref f) = true) : Meth K C m f := ⟨i, h, k⟩
def ifB (K : PySem.W.Frag) (C : Addr) : Bool := decide (PySem.W.findIn K (.ref C) "__class__" = some (some (.builtin "object.__class__"))) && (decide (PySem.W.specialIn K (.builtin "object.__class__") "__get__" = some (some (.builtin "getset_descriptor.__get__"))) &&
  (decide (PySem.W.takesIn K (.builtin "object.__class__") = some true) && decide (PySem.W.mroIn K C (.type "object") = some true)))
theorem ifB_ok (c : Cls K C) (h : ifB K C = true) : IF K C := by
  unfold ifB at h
  simp only [Bool.and_eq_true, decide_eq_true_eq] at h
  obtain ⟨h1, h2, h3, h4⟩ := h
  exact ⟨c, h1, h2, h3, h4⟩
def excB (K : PySem.W.Frag) (C : Addr) : Bool := xfB K C && (decide (PySem.W.findIn K (.ref C) "__class__" = some (some (.builtin "object.__class__"))) && (decide (PySem.W.specialIn K (.builtin "object.__class__") "__get__" = some (some (.builtin "getset_descriptor.__get__"))) &&
  (decide (PySem.W.takesIn K (.builtin "object.__class__") = some true) && decide (PySem.W.mroIn K C (.type "object") = some true))))
theorem excB_ok (h : excB K C = true) : ExcC K C := by
  unfold excB at h
  simp only [Bool.and_eq_true, decide_eq_true_eq] at h
  obtain ⟨h0, h1, h2, h3, h4⟩ := h
  have x := xfB_ok h0
  exact ⟨x.ga, x.gg, x.exC, x.hdC, h1, h2, h3, h4⟩
/-- isinstance by a table -/
def tyK : D → Option (Sum String Nat)
  | .ty n => some (.inl n)
  | .cl c => some (.inr c)
  | _ => none
abbrev STab := List (Sum String Nat × Sum String Nat × Bool)
def sLook (a b : Sum String Nat) : STab → Option Bool
  | [] => none
  | (x, y, r) :: t => if x = a ∧ y = b then some r else sLook a b t
def subC (tab : STab) (t c : D) : Option Bool := match tyK t, tyK c with
  | some (.inl a), some (.inl b) => tyTab a b
  | some a, some b => sLook a b tab
  | _, _ => none
def valS (cm : Nat → Addr) : Sum String Nat → Value
  | .inl n => .type n
  | .inr c => .ref (cm c)
theorem tyK_val {d : D} {k : Sum String Nat} {v : Value} (h : tyK d = some k) (e : valT cm d = some v) : v = valS cm k := by
  cases d <;> first | (cases h; done) | (cases h; cases e; rfl)
theorem sLook_mem {a b : Sum String Nat} {r : Bool} : ∀ {t : STab}, sLook a b t = some r → (a, b, r) ∈ t
  | [], h => by cases h
  | (x, y, z) :: t, h => by
    unfold sLook at h
    split at h
    · rename_i e
      cases h
      rw [e.1, e.2]
      exact List.mem_cons_self
    · exact List.mem_cons_of_mem _ (sLook_mem h)
theorem subC_ok {tab : STab} {ic : List Nat} (T : ∀ x ∈ tab, PySem.W.kitOne K (valS cm x.1) (valS cm x.2.1) = some x.2.2) (I : ∀ c ∈ ic, IF K (cm c)) : Sub K cm (subC tab) ic := by
  refine ⟨fun t c b tv cv h h1 h2 => ?_, I⟩
  unfold subC at h
  cases k1 : tyK t with
  | none => rw [k1] at h; cases h
  | some a =>
    cases k2 : tyK c with
    | none => rw [k1, k2] at h; cases a <;> cases h
    | some b' =>
      rw [k1, k2] at h
      have e1 := tyK_val k1 h1
      have e2 := tyK_val k2 h2
      subst e1 e2
      cases a with
      | inl a =>
        cases b' with
        | inl b' => exact kit_ty (tyTab_ok h)
        | inr c => exact T _ (sLook_mem h)
      | inr a => exact T _ (sLook_mem h)
/-- .. of caught errors -/
def subX (tab : STab) (c : Nat) (d : D) : Option Bool := match tyK d with
  | some b => sLook (.inr c) b tab
  | none => none
theorem subX_ok {tab : STab} (T : ∀ x ∈ tab, PySem.W.kitOne K (valS cm x.1) (valS cm x.2.1) = some x.2.2) (I : ∀ x ∈ tab, ∀ c, x.1 = .inr c → ExcC K (cm c)) : SubK K cm (subX tab) := by
  constructor
  · intro c k b cv h hv
    unfold subX at h
    cases k1 : tyK k with
    | none => rw [k1] at h; cases h
    | some a =>
      rw [k1] at h
      rw [tyK_val k1 hv]
      exact T _ (sLook_mem h)
  · intro c k b h
    unfold subX at h
    cases k1 : tyK k with
    | none => rw [k1] at h; cases h
    | some a => rw [k1] at h; exact I _ (sLook_mem h) c rfl
end
/-! ### the new meanings at an environment -/
section
variable {env e : Env} {m m1 m2 mo mc : M Tk} {ma : M (List Tk)}
theorem a_mIndex : mIndex m1 m2 env = bindR (m1 env) fun t1 env => match look t1 env with
  | some (.tupf xs) => bindR (m2 env) fun t2 env => match look t2 env with
    | some d2 => mOf (dIndex (.tupf xs) d2) env
    | none => .bad
  | _ => .bad := (rfl)
theorem a_fld {k : Nat} {cs : List Nat} {f : Str} : mFld k cs f m env = bindR (m env) fun t env => match force t env with
  | .ok d e1 => match owD k e1 with
    | some o => match putD cs f d o with
      | some o' => .ok .nx (e1.set k (.ow o'))
      | none => .bad
    | none => .bad
  | _ => .bad := (rfl)
theorem a_callT {F : List D → Rf} {ts : List Tk} : mCallT F ts env = match lookAll ts env with
  | none => .bad
  | some ds => match F ds with
    | .ok nw d _ => if apart nw d = true then .ok (tkOf nw d) env else match forceAll ts env with
      | .ok _ e => .ok (tkOf nw d) e
      | _ => .bad
    | .ex c ns xs _ => if xs.all D.flat = true then .ex c ns xs env else match forceAll ts env with
      | .ok _ e => .ex c ns xs e
      | _ => .bad
    | .bad => .bad := (rfl)
theorem a_meth {n : Str} {tab : Tab} : mMeth n tab mo ma env = bindR (mo env) fun t env => match look t env with
  | some (.ins c ns _) => if ns.contains n = true then .bad else match tabF tab c with
    | some F => bindR (ma env) fun ts => mCallT F (t.settle :: ts)
    | none => .bad
  | _ => .bad := (rfl)
theorem a_make {c : Nat} {F : List D → Rf} : mMake c F ma env = bindR (ma env) fun ts env => match lookAll ts env with
  | none => .bad
  | some ds => match F (.ins c [] [] :: ds) with
    | .ok false .non p => if noMutI p = true then .ok (.new p) env else match forceAll ts env with
      | .ok _ e => .ok (.new p) e
      | _ => .bad
    | .ex c' ns xs _ => match forceAll ts env with
      | .ok _ e => .ex c' ns xs e
      | _ => .bad
    | _ => .bad := (rfl)
theorem a_val : mVal m env = bindR (m env) fun t env => .ok t.settle env := (rfl)
theorem a_newD : mNewD env = .ok (.new (.dic [] [])) env := (rfl)
theorem a_isX {sub : Nat → D → Option Bool} {i : Nat} : mIsX sub i mc env = match env[i]? with
  | some (.xv _ _ _) => bindR (mc env) fun t env => match env[i]? with
    | some (.xv c _ _) => match look t env with
      | some d => if isT d = true then mOf ((sub c d).map fun b => .val (.bl b)) env else .bad
      | none => .bad
    | _ => .bad
  | _ => .bad := (rfl)
theorem e_fld {cs : List Nat} {f : Str} {c : Nat} {ns : List Str} {xs : List D} : dFld cs f (.ins c ns xs) = if cs.contains c = true then ((ns.zip xs).lookup f).map .val else none := (rfl)
theorem w_enumL {xs : List D} : wEnumA [.lst xs] = some (enumD 0 xs) := (rfl)
theorem w_enumT {xs : List D} : wEnumA [.tup xs] = some (enumD 0 xs) := (rfl)
end
end VM

set_option Elab.async false
set_option linter.all false
set_option maxRecDepth 100000
set_option maxHeartbeats 1000000
/-! VM Q: loops and comprehensions over lists of any kind of things -/
namespace VM
open PySem PySem.Spec PyProof.Rows L2
section
variable {g : D → Env → Option Env} {junk own : List Nat} {body : M Fl} {test : M Bool} {elt : M Tk} {α S : Type}
/-- a loop that carries a state -/
theorem loop_fold (E : S → Env) (st : S → α → S) (f : α → D) (I : S → Prop) : ∀ (xs : List α) (s : S), I s → (∀ s x, I s → x ∈ xs → turn g junk body (f x) (E s) = .ok .nx (E (st s x)) ∧ I (st s x)) →
    mLoop g junk body (xs.map f) (E s) = .ok .nx (E (xs.foldl st s)) ∧ I (xs.foldl st s)
  | [], s, hi, _ => ⟨rfl, hi⟩
  | x :: xs, s, hi, h => by
    obtain ⟨h1, h2⟩ := h s x hi List.mem_cons_self
    have ih := loop_fold E st f I xs (st s x) h2 fun s y hs hy => h s y hs (List.mem_cons_of_mem _ hy)
    rw [List.map_cons, loop_cons, h1]
    exact ih
/-- .. with the number of turns -/
theorem loop_foldN (E : S → Env) (st : S → α → S) (f : α → D) (I : Nat → S → Prop) : ∀ (xs : List α) (n : Nat) (s : S), I n s → (∀ k s x, I (n + k) s → xs[k]? = some x → turn g junk body (f x) (E s) = .ok .nx (E (st s x)) ∧ I (n + k + 1) (st s x)) →
    mLoop g junk body (xs.map f) (E s) = .ok .nx (E (xs.foldl st s)) ∧ I (n + xs.length) (xs.foldl st s)
  | [], n, s, hi, _ => ⟨rfl, hi⟩
  | x :: xs, n, s, hi, h => by
    obtain ⟨h1, h2⟩ := h 0 s x hi rfl
    have ih := loop_foldN E st f I xs (n + 1) (st s x) h2 fun k s y hs hy => by
      have := h (k + 1) s y (by rw [show n + (k + 1) = n + 1 + k by omega]; exact hs) (by simpa using hy)
      rw [show n + (k + 1) = n + 1 + k by omega] at this
      exact this
    rw [List.map_cons, loop_cons, h1, List.length_cons, show n + (xs.length + 1) = n + 1 + xs.length by omega]
    exact ih
/-- .. without a word of the state -/
theorem loop_st (E : S → Env) (st : S → α → S) (f : α → D) (xs : List α) (s : S) (h : ∀ s x, x ∈ xs → turn g junk body (f x) (E s) = .ok .nx (E (st s x))) : mLoop g junk body (xs.map f) (E s) = .ok .nx (E (xs.foldl st s)) :=
  (loop_fold E st f (fun _ => True) xs s trivial fun s x _ hx => ⟨h s x hx, trivial⟩).1
/-- a loop that leaves all as it was -/
theorem loop_same (E : Env) (f : α → D) (xs : List α) (h : ∀ x, x ∈ xs → turn g junk body (f x) E = .ok .nx E) : mLoop g junk body (xs.map f) E = .ok .nx E := by
  have := loop_st (S := Unit) (fun _ => E) (fun _ _ => ()) f xs () fun _ x hx => h x hx
  exact this
/-- a loop that ends at the first thing of a kind -/
theorem loop_find (E : Env) (f : α → D) (p : α → Bool) (out : α → Fl) (Eo : α → Env) : ∀ (xs : List α), (∀ x, x ∈ xs → p x = false → turn g junk body (f x) E = .ok .nx E) →
    (∀ x, x ∈ xs → p x = true → turn g junk body (f x) E = .ok (out x) (Eo x)) → (∀ x, out x ≠ .nx ∧ out x ≠ .bk) →
    mLoop g junk body (xs.map f) E = match xs.find? p with
      | some x => .ok (out x) (Eo x)
      | none => .ok .nx E
  | [], _, _, _ => rfl
  | x :: xs, h0, h1, ho => by
    rw [List.map_cons, loop_cons]
    cases hp : p x with
    | false =>
      rw [h0 x List.mem_cons_self hp, List.find?_cons_of_neg (by rw [hp]; simp)]
      exact loop_find E f p out Eo xs (fun y hy => h0 y (List.mem_cons_of_mem _ hy)) (fun y hy => h1 y (List.mem_cons_of_mem _ hy)) ho
    | true =>
      rw [h1 x List.mem_cons_self hp, List.find?_cons_of_pos hp]
      have := ho x
      cases hh : out x with
      | nx => exact absurd hh this.1
      | bk => exact absurd hh this.2
      | ct => show Rs.ok Fl.ct (Eo x) = Rs.ok (out x) (Eo x); rw [hh]
      | rt t => show Rs.ok (Fl.rt t) (Eo x) = Rs.ok (out x) (Eo x); rw [hh]
/-- a turn of a comprehension: d gives d' -/
def LcOne (g : D → Env → Option Env) (own : List Nat) (test : M Bool) (elt : M Tk) (E : Env) (d d' : D) (E' : Env) : Prop := ∃ e1 e2 t e3 e4, g d E = some e1 ∧ test e1 = .ok true e2 ∧ elt e2 = .ok t e3 ∧ force t e3 = .ok d' e4 ∧ wipeE own e4 = E'
def LcNo (g : D → Env → Option Env) (own : List Nat) (test : M Bool) (E : Env) (d : D) (E' : Env) : Prop := ∃ e1 e2, g d E = some e1 ∧ test e1 = .ok false e2 ∧ wipeE own e2 = E'
theorem lc_one {E E' : Env} {d d' : D} {ds acc : List D} (h : LcOne g own test elt E d d' E') (hl : acc.length < lim) : mLcLoop g own test elt (d :: ds) acc E = mLcLoop g own test elt ds (acc ++ [d']) E' := by
  obtain ⟨e1, e2, t, e3, e4, h1, h2, h3, h4, h5⟩ := h
  rw [show mLcLoop g own test elt (d :: ds) acc E = (match g d E with | none => Rs.bad | some e1 => _) from rfl, h1]
  dsimp only
  rw [h2]
  dsimp only
  rw [h3]
  dsimp only
  rw [h4]
  dsimp only
  rw [if_pos hl, h5]
theorem lc_no {E E' : Env} {d : D} {ds acc : List D} (h : LcNo g own test E d E') : mLcLoop g own test elt (d :: ds) acc E = mLcLoop g own test elt ds acc E' := by
  obtain ⟨e1, e2, h1, h2, h3⟩ := h
  rw [show mLcLoop g own test elt (d :: ds) acc E = (match g d E with | none => Rs.bad | some e1 => _) from rfl, h1]
  dsimp only
  rw [h2]
  dsimp only
  rw [h3]
/-- each thing gives one -/
theorem lc_map {E : Env} (f out : α → D) : ∀ (xs : List α) (acc : List D), acc.length + xs.length ≤ lim → (∀ x, x ∈ xs → LcOne g own test elt E (f x) (out x) E) → mLcLoop g own test elt (xs.map f) acc E = .ok (acc ++ xs.map out) E
  | [], acc, _, _ => by simp [mLcLoop]
  | x :: xs, acc, hl, h => by
    rw [List.length_cons] at hl
    rw [List.map_cons, lc_one (h x List.mem_cons_self) (by omega), lc_map f out xs (acc ++ [out x]) (by simp; omega) fun y hy => h y (List.mem_cons_of_mem _ hy)]
    simp
theorem lc_each {E : Env} (f out : α → D) (xs : List α) (hl : xs.length ≤ lim) (h : ∀ x, x ∈ xs → LcOne g own mYes elt E (f x) (out x) E) : mLcLoop g own mYes elt (xs.map f) [] E = .ok (xs.map out) E := by
  rw [lc_map f out xs [] (by rw [List.length_nil]; omega) h]; rfl
/-- each thing of a kind gives one -/
theorem lc_filter {E : Env} (f out : α → D) (p : α → Bool) : ∀ (xs : List α) (acc : List D), acc.length + xs.length ≤ lim → (∀ x, x ∈ xs → p x = true → LcOne g own test elt E (f x) (out x) E) → (∀ x, x ∈ xs → p x = false → LcNo g own test E (f x) E) →
    mLcLoop g own test elt (xs.map f) acc E = .ok (acc ++ (xs.filter p).map out) E
  | [], acc, _, _, _ => by simp [mLcLoop]
  | x :: xs, acc, hl, h, h0 => by
    rw [List.length_cons] at hl
    cases hp : p x with
    | true =>
      rw [List.map_cons, lc_one (h x List.mem_cons_self hp) (by omega), lc_filter f out p xs (acc ++ [out x]) (by simp; omega) (fun y hy => h y (List.mem_cons_of_mem _ hy)) (fun y hy => h0 y (List.mem_cons_of_mem _ hy)), List.filter_cons_of_pos hp]
      simp
    | false =>
      rw [List.map_cons, lc_no (h0 x List.mem_cons_self hp), lc_filter f out p xs acc (by omega) (fun y hy => h y (List.mem_cons_of_mem _ hy)) (fun y hy => h0 y (List.mem_cons_of_mem _ hy)), List.filter_cons_of_neg (by rw [hp]; simp)]
/-- a comprehension that draws: the state goes along -/
theorem lc_draw (P : Env → Prop) (R : D → Prop) : ∀ (ds : List D) (acc : List D) {E : Env}, acc.length + ds.length ≤ lim → P E → (∀ d E, d ∈ ds → P E → ∃ d' E', LcOne g own test elt E d d' E' ∧ R d' ∧ P E') → (∀ d ∈ acc, R d) →
    ∃ out E', mLcLoop g own test elt ds acc E = .ok (acc ++ out) E' ∧ P E' ∧ (∀ d ∈ out, R d) ∧ out.length = ds.length
  | [], acc, E, _, hp, _, _ => ⟨[], E, by simp [mLcLoop], hp, by simp, rfl⟩
  | d :: ds, acc, E, hl, hp, h, ha => by
    rw [List.length_cons] at hl
    obtain ⟨d', E1, h1, h2, h3⟩ := h d E List.mem_cons_self hp
    obtain ⟨out, E2, g1, g2, g3, g4⟩ := lc_draw P R ds (acc ++ [d']) (E := E1) (by simp; omega) h3 (fun x E hx => h x E (List.mem_cons_of_mem _ hx)) (by simp; intro x hx; rcases hx with hx | rfl; exact ha x hx; exact h2)
    refine ⟨d' :: out, E2, ?_, g2, ?_, by simp [g4]⟩
    · rw [lc_one h1 (by omega), g1]; simp
    · intro x hx
      rcases List.mem_cons.mp hx with rfl | hx
      · exact h2
      · exact g3 x hx
end
theorem rngD_map (lo : Int) (n : Nat) : rngD lo n = (List.range n).map fun i => .int (lo + (i : Nat)) := rfl
theorem enumD_map {α : Type} (f : α → D) : ∀ (xs : List α) (k : Nat), enumD k (xs.map f) = (xs.zipIdx k).map fun p => .tup [.int (p.2 : Nat), f p.1]
  | [], k => rfl
  | x :: xs, k => by
    rw [List.map_cons, List.zipIdx_cons, List.map_cons, ← enumD_map f xs (k + 1)]
    rfl
theorem zipD_map {α β : Type} (f : α → D) (g : β → D) : ∀ (xs : List α) (ys : List β), zipD (xs.map f) (ys.map g) = (xs.zip ys).map fun p => .tup [f p.1, g p.2]
  | [], _ => by simp [zipD]
  | _ :: _, [] => by simp [zipD]
  | x :: xs, y :: ys => by
    rw [List.map_cons, List.map_cons, List.zip_cons_cons, List.map_cons, ← zipD_map f g xs ys]
    rfl
theorem atI_mapN {α : Type} (f : α → D) {xs : List α} {i : Nat} {x : α} (h : xs[i]? = some x) : atI (xs.map f) (i : Int) = some (f x) := atI_nat (by rw [List.getElem?_map, h]; rfl)
section
variable {env e : Env} {m m1 m2 mo mc : M Tk} {ma : M (List Tk)}
/-- the method n of d -/
def methF (n : Str) (tab : Tab) : D → Option (List D → Rf)
  | .ins c ns _ => if ns.contains n = true then none else tabF tab c
  | _ => none
theorem a_methD {n : Str} {tab : Tab} : mMeth n tab mo ma env = bindR (mo env) fun t env => match look t env with
  | some d => match methF n tab d with
    | some F => bindR (ma env) fun ts => mCallT F (t.settle :: ts)
    | none => .bad
  | none => .bad := by
  rw [a_meth]
  cases mo env with
  | ok t e1 =>
    rw [bindR_ok, bindR_ok]
    cases look t e1 with
    | none => rfl
    | some d =>
      cases d with
      | ins c ns xs =>
        dsimp only [methF]
        by_cases h : ns.contains n = true
        · rw [if_pos h, if_pos h]
        · rw [if_neg h, if_neg h]; first | done | (cases tabF tab c <;> rfl)
      | _ => rfl
  | ex _ _ _ _ => rfl
  | bad => rfl
theorem a_apT {nw : Bool} {xs : List D} : apart nw (.tup xs) = false := by cases nw <;> rfl
theorem a_apG {nw : Bool} {xs : List D} : apart nw (.tupf xs) = false := by cases nw <;> rfl
theorem a_apL {xs : List D} : apart false (.lst xs) = false := rfl
theorem flat_map {α : Type} {f : α → D} (h : ∀ x, (f x).flat = true) (xs : List α) : (xs.map f).all D.flat = true := by
  rw [List.all_map, List.all_eq_true]
  exact fun x _ => h x
theorem a_apN {xs : List D} (h : xs.all D.flat = true) : apart true (.lst xs) = true := by
  show (false || (true && xs.all D.flat)) = true
  rw [h]; rfl
theorem e_ixG {xs : List D} {i : Int} : dIx (.tupf xs) (.int i) = (atI xs i).map .val := (rfl)
theorem e_tupF {xs : List D} : dTupleF (.lst xs) = some (.val (.tupf xs)) := (rfl)
theorem a_iterT {t : Tk} {xs : List D} {e2 : Env} (h : m env = .ok t e) (f : force t e = .ok (.tup xs) e2) : mIter m env = .ok xs e2 := by
  rw [a_iter, h, bindR_ok, f]
/-- whole numbers from 0 -/
def nI (n : Nat) : D := .int (n : Int)
def nums (l : List Nat) : List D := l.map nI
theorem nI_flat (n : Nat) : (nI n).flat = true := rfl
theorem nums_flat (l : List Nat) : (nums l).all D.flat = true := flat_map nI_flat l
theorem nums_len (l : List Nat) : (nums l).length = l.length := List.length_map ..
theorem nums_app (a b : List Nat) : nums (a ++ b) = nums a ++ nums b := List.map_append ..
theorem nums_cons (a : Nat) (l : List Nat) : nums (a :: l) = .int (a : Int) :: nums l := rfl
theorem nums_nil : nums [] = [] := rfl
theorem nums_take (l : List Nat) (k : Nat) : (nums l).take k = nums (l.take k) := (List.map_take ..).symm
theorem nums_drop (l : List Nat) (k : Nat) : (nums l).drop k = nums (l.drop k) := (List.map_drop ..).symm
theorem nums_rev (l : List Nat) : (nums l).reverse = nums l.reverse := (List.map_reverse ..).symm
theorem nums_set (l : List Nat) (k v : Nat) : (nums l).set k (.int (v : Int)) = nums (l.set k v) := List.map_set.symm
theorem nums_at {l : List Nat} {i n : Nat} (h : l[i]? = some n) : atI (nums l) (i : Int) = some (.int (n : Int)) := atI_mapN nI h
theorem toInts_nums (l : List Nat) : toInts (nums l) = some (l.map fun n : Nat => (n : Int)) := by
  have := toInts_map (l.map fun n : Nat => (n : Int))
  rw [List.map_map] at this
  exact this
theorem truIs_nums : ∀ l : List Nat, truIs (nums l) = some (l.map fun n : Nat => ((n : Int) != 0))
  | [] => rfl
  | x :: xs => by
    have ih := truIs_nums xs
    show (match truI (nI x), truIs (nums xs) with | some b, some bs => some (b :: bs) | _, _ => none) = _
    rw [ih]
    rfl
theorem pl_intsN {n : Nat} (l : List Nat) : (nums l).all (D.pl n) = true := by
  unfold nums
  rw [List.all_map, List.all_eq_true]
  exact fun _ _ => pl_int
end
/-! ### comprehensions' places, slices, ranges down -/
theorem e_sliceL {xs : List D} {lo hi : Option Int} : dSl (.lst xs) lo hi = some (.new (.lst (cutD xs lo hi))) := (rfl)
theorem e_sliceT {xs : List D} {lo hi : Option Int} : dSl (.tup xs) lo hi = some (.val (.tup (cutD xs lo hi))) := (rfl)
theorem a_no0 {e : Env} : noOw [] e = true := (rfl)
theorem a_no1 {i : Nat} {l : List Nat} {e : Env} : noOw (i :: l) e = ((match e[i]? with
  | some .no => true
  | some (.sh _) => true
  | _ => false) && noOw l e) := (rfl)
theorem cut_take {xs : List D} {k : Nat} (h : k ≤ xs.length) : cutD xs none (some (k : Int)) = xs.take k := by
  unfold cutD
  rw [HT.sIx_none, HT.sIx_nat, Nat.min_eq_left h, Nat.sub_zero, List.drop_zero]
theorem cut_drop {xs : List D} {k : Nat} (h : k ≤ xs.length) : cutD xs (some (k : Int)) none = xs.drop k := by
  unfold cutD
  rw [HT.sIx_none, HT.sIx_nat, Nat.min_eq_left h]
  exact List.take_of_length_le (by rw [List.length_drop]; exact Nat.le_refl _)
theorem wDn_eq {i j : Int} (h : okR i = true) (h2 : okR j = true) : wDn [.int i, .int j, .int (-1)] = some (rngDn i (i - j).toNat) := if_pos ⟨rfl, h, h2⟩
theorem rngDn_1 {i : Int} : rngDn i 1 = [.int i] := by
  show [D.int (i + ((0 : Nat) : Int) * (-1))] = _
  rw [show i + ((0 : Nat) : Int) * (-1) = i by omega]
/-! ### ends, by their form (never unfolded at an open argument) -/
section
variable {t : Tk} {e : Env} {d p : D} {k : Nat} {c : Nat} {ns : List Str} {ds : List D}
theorem fin_nx : fin (.ok .nx e) = .ok false .non .non := (rfl)
theorem fin_val : fin (.ok (.rt (.val d)) e) = .ok false d .non := (rfl)
theorem fin_new : fin (.ok (.rt (.new d)) e) = .ok true d .non := (rfl)
theorem fin_slot : fin (.ok (.rt (.slot k)) e) = match e[k]? with
    | some (.sh d) => .ok false d .non
    | some (.ow d) => .ok true d .non
    | _ => .bad := by
  unfold fin outTk
  dsimp only
  cases e[k]? with
  | none => rfl
  | some s => cases s <;> rfl
theorem fin_ex : fin (.ex c ns ds e) = .ex c ns ds .non := (rfl)
theorem finIO_nx {r : Env} : finIO (.ok .nx (.ow p :: r)) = .ok false .non p := (rfl)
theorem finIO_val {r : Env} : finIO (.ok (.rt (.val d)) (.ow p :: r)) = .ok false d p := (rfl)
theorem finIO_new {r : Env} : finIO (.ok (.rt (.new d)) (.ow p :: r)) = .ok true d p := (rfl)
theorem finIO_slot {r : Env} : finIO (.ok (.rt (.slot (k + 1))) (.ow p :: r)) = match r[k]? with
    | some (.sh d) => .ok false d p
    | some (.ow d) => .ok true d p
    | _ => .bad := by
  have h : outTk (.slot (k + 1)) (.ow p :: r) = (match r[k]? with
    | some (.sh d) => some (false, d)
    | some (.ow d) => some (true, d)
    | _ => none) := rfl
  show (match outTk (.slot (k + 1)) (.ow p :: r), own0 (.ow p :: r) with
    | some (nw, d), some p => Rf.ok nw d p
    | _, _ => .bad) = _
  rw [h]
  cases r[k]? with
  | none => rfl
  | some s => cases s <;> rfl
theorem finIO_ex {r : Env} : finIO (.ex c ns ds (.ow p :: r)) = .ex c ns ds p := (rfl)
theorem entry_eq {n : Nat} : entry n ds = ds.map .sh ++ List.replicate (n - ds.length) .no := (rfl)
theorem entryIO_eq {n : Nat} : entryIO n d ds = .ow d :: (ds.map .sh ++ List.replicate (n - 1 - ds.length) .no) := (rfl)
end
end VM

set_option Elab.async false
set_option linter.all false
set_option maxRecDepth 100000
set_option maxHeartbeats 1000000
/-! VM R: xs[::-1], xs.insert(i, x), calls with keywords -/
namespace VM
open PySem PySem.Spec PyProof.Rows L2
section
variable {X : Cx} {y : Y} {a e ei : Expr} {es : List Expr} {m mi : M Tk} {ma mb : M (List Tk)} {pos p : Pos}
def dRev : D → Option Tk
  | .lst xs => some (.new (.lst xs.reverse))
  | _ => none
theorem px_rev1 {k : Nat} {p1 p2 p3 : Pos} (ha : PX X y a m) : PX X y (.Subscript a (.Slice none none (some (.UnaryOp .USub (.Constant (.int 1) k p1) p2)) p3) pos) (mUn dRev m) :=
  ⟨PE_imp (pe_revL ha.pe) fun σ H Q ⟨env, Hk, G, re, q⟩ => ⟨env, Hk, G, re, po_bind q fun t e1 v Hk' H1 k1 r1 rt q1 => by
    unfold mLook1 at q1
    cases z : look t e1 with
    | none => rw [z] at q1; exact q1.elim
    | some d =>
      rw [z] at q1
      dsimp only at q1
      unfold mOf at q1
      cases d with
      | lst xs =>
        obtain ⟨b, vs, rfl, h1, h2⟩ := (rt.look r1 z).lst r1.hk
        refine ⟨b, vs, rfl, sqL h1, fun l hl => ?_⟩
        obtain ⟨Hk2, k2, r2, rz⟩ := r1.res (res_lst hl h2.reverse)
        exact q1 _ Hk2 _ k2 r2 rz
      | _ => exact q1.elim⟩⟩
/-- x.insert(i, e) -/
def mIns (k : Nat) (mi m : M Tk) : M Tk := fun env => match owL k env with
  | none => .bad
  | some _ => mBind mi (fun ti => mBind m (fun t e2 => match look ti.settle e2 with
    | some (.int i) => match force t e2 with
      | .ok d e3 => match owL k e3 with
        | some xs => if 0 ≤ i ∧ i ≤ (xs.length : Int) ∧ xs.length < lim then .ok (.val .non) (e3.set k (.ow (.lst (xs.take i.toNat ++ [d] ++ xs.drop i.toNat)))) else .bad
        | none => .bad
      | _ => .bad
    | _ => .bad)) env
def rIns : V → List V → Hp → VK → Prop := fun x vs H Q => ∃ (l : Addr) (xs : List V) (i : Int) (y : V), x = .ref l ∧ vs = [.int i, y] ∧ H l = some (.lst xs) ∧ xs.length < sizeLine ∧ 0 ≤ i ∧ i < 2 ^ 63 ∧
    Q .non (upd H l (.lst (xs.take i.toNat ++ [y] ++ xs.drop i.toNat)))
theorem px_ins {k : Nat} {o : Expr} (hi : PX X y ei mi) (h : PX X y e m) (hs : PE X (.Call (.Attribute o "insert" p) [ei, e] [] pos) (tBM X.K "list" rIns (tVar k) (tCons (tE X y mi) (tCons (tE X y m) tNil)))) : PX X y (.Call (.Attribute o "insert" p) [ei, e] [] pos) (mIns k mi m) := by
  refine ⟨PE_imp hs fun σ H Q ⟨env, Hk, G, re, q⟩ => ?_⟩
  unfold mIns at q
  cases z : owL k env with
  | none => rw [z] at q; exact q.elim
  | some xs0 =>
    rw [z] at q
    obtain ⟨l, hl, _, _, vs0, g1, _⟩ := re.ow k _ (owL_at z)
    refine ⟨.ref l, hl, .inl ⟨rfl, vs0, sqL g1⟩, env, Hk, G, re, po_bind q fun ti e1 vi Hk1 H1 k1 r1 rt1 q1 => ?_⟩
    obtain ⟨Hk1', k1', r1', rv1⟩ := rt1.settle r1
    refine ⟨e1, Hk1', G, r1', po_bind (q1.kx k1') fun t e2 v Hk2 H2 k2 r2 rt2 q2 => ?_⟩
    have rti := ((rv1.kx k2).rt (G := G) (env := e2) (H := H2))
    cases z1 : look ti.settle e2 with
    | none => rw [z1] at q2; exact q2.elim
    | some di =>
      rw [z1] at q2
      cases di with
      | int i =>
        have hi := (rti.look r2 z1).int
        subst hi
        dsimp only at q2
        rcases force_cases t e2 with ⟨d, e3, z2⟩ | z2
        · rw [z2] at q2
          dsimp only at q2
          obtain ⟨Hk3, k3, r3, rd⟩ := rt2.force r2 z2
          cases z3 : owL k e3 with
          | none => rw [z3] at q2; exact q2.elim
          | some xs =>
            rw [z3] at q2
            dsimp only at q2
            split at q2
            · rename_i hlen
              obtain ⟨h0, h1, h2⟩ := hlen
              obtain ⟨l', hl', w1, w2, vs, w3, w4⟩ := r3.ow k _ (owL_at z3)
              rw [hl] at hl'
              cases hl'
              have h63 : i < 2 ^ 63 := by unfold lim at h2; omega
              refine ⟨l, vs, i, v, rfl, rfl, w3, by rw [← w4.len]; exact lim_line h2, h0, h63, ?_⟩
              exact q2 .non Hk3 _ k3 (r3.mut (owL_at z3) hl ⟨w2, _, upd_same, ((w4.take _).append (.cons rd .nil)).append (w4.drop _)⟩) (rp_non (C := y.ct X) (H := Hk3))
            · exact q2.elim
        · rw [z2] at q2; exact q2.elim
      | _ => exact q2.elim
/-! ### f(e, .., k = v, ..) -/
def mCat (ma mb : M (List Tk)) : M (List Tk) := mBind ma fun ts => mBind mb fun us env => .ok (ts ++ us) env
structure CFK (P : Program) (w : World) (K : PySem.W.Frag) (mg : Str → Option Value) (base : Heap) (cm : Nat → Addr) (x : Str) (k n : Nat) (ks ps : List Str) (F : List D → Rf) : Prop where
  ex : ∃ f fd g, FnOk P w K mg base (L2.CX P w) k f fd ps (spF ⟨K, cm⟩ ps.length F) ∧ mg x = some (.ref f) ∧ PySem.W.keepIn K (.ref f) = true ∧ KBn K fd ps n ks g (fun vs zs => vs ++ zs)
theorem RVs.cat {C : Ct} {σ : L2.St} {Hk : Hp} : ∀ {ts : List Tk} {vs : List V} {us : List Tk} {ws : List V}, RVs C σ Hk ts vs → RVs C σ Hk us ws → RVs C σ Hk (ts ++ us) (vs ++ ws)
  | _, _, _, _, .nil, h => h
  | _, _, _, _, .cons h1 h2, h => .cons h1 (RVs.cat h2 h)
/-- a run of a def with keywords' values; what it raises is told by the caller's slots -/
theorem keyed_run {Z : Cx} {n k : Nat} {ks ps : List Str} {f : Addr} {fd : FuncData} {sp : Sp} {g : List Value → List Value → List Value} {gV : List V → List V → List V} {W : XK} (FO : FnOk Z.prog Z.w Z.K Z.mg Z.base (L2.CX Z.prog Z.w) k f fd ps sp) (room : Room k Z.A) (kb : KBn Z.K fd ps n ks g gV)
    {pins : List (Addr × Obj)} {σ : L2.St} (ps' : PassesAt (L2.CX Z.prog Z.w) Z σ W) {H : Hp} {s : Shared} {Q : VK} {us ws : List Value} {vs zs : List V} (J : Inv Z pins σ H s) (ru : Vals vs us) (rw' : Vals zs ws) (lu : vs.length = n) (lw : zs.length = ks.length) (hsp : sp (gV vs zs) H Q W) :
    wpAny (model Z.prog Z.w) Z.A (call (.ref f) us (ks.zip ws)) (EP Z pins σ Q) Z.xe s :=
  wpAny_call (codeAny_mono (FO.run Z.A Z.stack s H ⟨us, ks.zip ws⟩ (g us ws) (gV vs zs) Q W room J.env0 (kb.to s us ws J.kIn (ru.length ▸ lu) (rw'.length ▸ lw)) (kb.rel ru rw') hsp) (fun r s' hq => match r with
    | .error e => ps' pins H s e s' J hq
    | .ok (.ret _) => J.after hq
    | .ok .next => hq.elim
    | .ok .brk => hq.elim
    | .ok .cont => hq.elim))
theorem px_callK {x : Str} {F : List D → Rf} {k kk n : Nat} {ks ps : List Str} {kws : List Keyword} (h : CFK X.prog X.w X.K X.mg X.base y.cm x k n ks ps F) (hr : Room kk X.A) (tk : Takes X y.W) (ha : PAs X y (e :: es) ma) (hkw : PK X kws (tA X y mb))
    (hn : Many ma n := by repeat first | exact many_nil | refine many_cons ?_) (hn2 : Many mb ks.length := by repeat first | exact many_nil | refine many_cons ?_) (hps : n + ks.length = ps.length := by rfl) (hk : k ≤ kk := by decide) (hg : Gl X x := by rfl)
    (hall : (backToKw pos (keywordEach kws X.env)).all (·.1.isSome) = true := by rfl) (hks : (backToKw pos (keywordEach kws X.env)).filterMap (·.1) = ks := by rfl)
    (hdb : (x == ("__debug__" : Str)) = false := by decide) (he : starEach (e :: es) X.env = (false, eval e X.env) :: starEach es X.env := by rfl)
    (hpl : ((backTo pos (starEach (e :: es) X.env)).any (·.1) || (backToKw pos (keywordEach kws X.env)).any (·.1.isNone)) = false := by rfl) : PX X y (.Call (.Name x p) (e :: es) kws pos) (mCallF F (mCat ma mb)) := by
  obtain ⟨f, fd, g, h1, h2, h3, h4⟩ := h.ex
  refine ⟨⟨fun pins s σ H Q I hq => ?_⟩⟩
  obtain ⟨env, Hk, G, re, q⟩ := hq
  refine wpAny_Call_Name_kw (ld_glob I hg h2 ?_ hdb)
  have q' : PoE (y.ct X) y.xa y.W G σ Hk (mBind ma (fun ts => mBind mb fun us env => (match lookAll (ts ++ us) env with
    | none => .bad
    | some ds => match F ds with
      | .ok nw d _ => if apart nw d = true then .ok (tkOf nw d) env else match forceAll (ts ++ us) env with
        | .ok _ e => .ok (tkOf nw d) e
        | _ => .bad
      | .ex c ns xs _ => if xs.all D.flat = true then .ex c ns xs env else match forceAll (ts ++ us) env with
        | .ok _ e => .ex c ns xs e
        | _ => .bad
      | .bad => .bad)) env) Q := by
    unfold mCallF mCat at q
    unfold mBind at q ⊢
    cases z : ma env with
    | ok ts e1 =>
      rw [z] at q
      dsimp only at q ⊢
      cases z2 : mb e1 with
      | ok us e2 => rw [z2] at q; exact q
      | ex c ns ds e2 => rw [z2] at q; exact q
      | bad => rw [z2] at q; exact q
    | ex c ns ds e1 => rw [z] at q; exact q
    | bad => rw [z] at q; exact q
  have q2 : tA X y ma σ H (fun vs H1 => tA X y mb σ H1 fun zs H2 => vs.length = n ∧ zs.length = ks.length ∧ spF (y.ct X) ps.length F (vs ++ zs) H2 Q (WE y.W σ)) :=
    ⟨env, Hk, G, re, pa_bindN hn q' fun ts e1 vs Hk1 H1 k1 r1 rs hl q1 => ⟨e1, Hk1, G, r1, pa_bindN hn2 q1 fun us e2 zs Hk2 H2 k2 r2 rs2 hl2 q2 => by
      have rc := (rs.kx k2).cat rs2
      refine ⟨by rw [← rs.len]; exact hl, by rw [← rs2.len]; exact hl2, ?_⟩
      exact callF_go r2 rc (by rw [← rc.len, List.length_append, hl, hl2]; exact hps) q2⟩⟩
  refine PySem.W.callWith_KW (h₀ := X.base) I.ok.mod.kin h3 hall (thn (ha.pa.run pos pins s σ H _ I q2) fun us s1 ⟨vs, H1, I1, r, q3⟩ => ?_) hpl he
  refine thn (hkw.run pos pins s1 σ H1 _ I1 q3) fun ws s2 ⟨zs, H2, I2, rz, l1, l2, q4⟩ => ⟨I2.kIn, ?_⟩
  rw [hks]
  exact keyed_run h1 (hr.mono hk) h4 (passAt tk σ) I2 r rz l1 l2 q4
theorem pk_one {nm : Option Str} {kp : Pos} (h : PX X y e m) : PK X [⟨nm, e, kp⟩] (tA X y (mCons m mNil)) := by
  refine ⟨fun pos pins s σ H Q I ⟨env, Hk, G, re, q⟩ => (pk_cons h.pe pk_nil).run pos pins s σ H Q I ⟨env, Hk, G, re, ?_⟩⟩
  unfold mCons mNil mBind at q
  cases z : m env with
  | ok t e1 =>
    rw [z] at q
    intro v Hk1 H1 k1 r1 rt1
    obtain ⟨Hk1', k1', r1', rv1⟩ := rt1.settle r1
    exact q [v] Hk1' H1 (k1.trans k1') r1' (.cons rv1 .nil)
  | ex c ns ds e1 => rw [z] at q; exact q
  | bad => rw [z] at q; exact q
theorem cfk_mk {P : Program} {w : World} {K : PySem.W.Frag} {mg : Str → Option Value} {base : Heap} {cm : Nat → Addr} {x : Str} {k n : Nat} {ks ps : List Str} {F : List D → Rf} {f : Addr} {fd : FuncData} (h : FnOk P w K mg base (L2.CX P w) k f fd ps (spF ⟨K, cm⟩ ps.length F)) (hm : mg x = some (.ref f))
    (hk : PySem.W.keepIn K (.ref f) = true) (hb : ∃ its : List Value, KBn K fd ps n ks (fun us ws => (fun (us _ ws : List Value) => us ++ ws) us its ws) (fun vs zs => vs ++ zs)) : CFK P w K mg base cm x k n ks ps F :=
  let ⟨_, h1⟩ := hb
  ⟨f, fd, _, h, hm, hk, h1⟩
/-! ### meanings applied -/
variable {env : Env}
theorem a_ins {k : Nat} : mIns k mi m env = match owL k env with
  | none => .bad
  | some _ => bindR (mi env) fun ti e1 => bindR (m e1) fun t e2 => match look ti.settle e2 with
    | some (.int i) => match force t e2 with
      | .ok d e3 => match owL k e3 with
        | some xs => if 0 ≤ i ∧ i ≤ (xs.length : Int) ∧ xs.length < lim then .ok (.val .non) (e3.set k (.ow (.lst (xs.take i.toNat ++ [d] ++ xs.drop i.toNat)))) else .bad
        | none => .bad
      | _ => .bad
    | _ => .bad := (rfl)
theorem a_cat : mCat ma mb env = bindR (ma env) fun ts e1 => bindR (mb e1) fun us e2 => .ok (ts ++ us) e2 := (rfl)
theorem e_revL {xs : List D} : dRev (.lst xs) = some (.new (.lst xs.reverse)) := (rfl)
end
end VM

set_option Elab.async false
set_option linter.all false
set_option maxRecDepth 100000
set_option maxHeartbeats 1000000
/-! VM S: a def that calls nothing, called within an except suite -/
namespace VM
open PySem PySem.Spec PyProof.Rows L2
section
variable {P : Program} {w : World} {K : PySem.W.Frag} {mg : Str → Option Value} {base : Heap} {cm : Nat → Addr}
/-- a def's promise where an exception is being handled -/
structure FnU (P : Program) (w : World) (K : PySem.W.Frag) (mg : Str → Option Value) (base : Heap) (k : Nat) (f : Addr) (fd : FuncData) (ps : List Str) (sp : Sp) : Prop where
  len : ∀ vs H Q E, sp vs H Q E → vs.length = ps.length
  run : ∀ (A : Around) (outer : List PySem.Env) (s : Shared) (H : Hp) (args : Args) (us : List Value) (vs : List V) (Q : VK) (E : XK) (p : Addr × Obj), L2H.RoomH k A → L2H.PinOk outer H s p → Env0 P w K mg base A outer s H → BindsTo s fd args (ps.zip us) → Vals vs us → sp vs H Q E →
    codeAny (model P w) A (.call (.ref f) args) (CR (L2.CX P w) outer P w H s Q E) s
theorem fnU_of {f : Addr} {x qual : Str} {st : Stmt} {fd : FuncData} {N ps : List Str} {sp : Sp} {k : Nat} (F : Fun K x qual st f fd) (S : FnScope N ps (defScope st)) (len : ∀ vs H Q E, sp vs H Q E → vs.length = ps.length)
    (hb : ∀ (cdv : Value) (A : Around) (outer : List PySem.Env) (s : Shared) (H : Hp) (vs : List V) (Q : VK) (E : XK) (p : Addr × Obj), sp vs H Q E →
      ∃ t, PSs (L2H.cxH (L2.CX P w) P w K mg base N qual (defScope st) f cdv A outer s H E p) (defBody st) t ∧ t { nx := fun _ H' => Q .non H', rt := Q } (L2.start N vs) H) :
    FnU P w K mg base (k + 1) f fd ps sp := by
  obtain ⟨oc, od, kV, doc, pm, an, cdv, ct, osl, rfl, look, code⟩ := F.ex
  refine ⟨len, fun A outer s H args us vs Q E p room pin env bt rel hsp => ?_⟩
  have inK : K.In s.heap := env.mod.kin.keeps fun b o e => (env.bs b o e).1
  have free : s.heap.NoLimit := env.mod.nolimit.keeps fun b o e => (env.bs b o e).1
  refine codeAny_call_function room.depth (inK _ _ look) rfl S.co S.gen rfl (PySem.W.codeRec_of inK code) (bt _ _ _ _ (wpAny_newFunctionEnv_cells S.kind (fun ⟨n, v⟩ hy => ?_) fun e2 he s1 x => ?_))
  · exact (S.par n (List.of_mem_zip hy).1).imp id fun q => ⟨q, PySem.W.cellsFrom_some _ _ _ (.inl q)⟩
  subst he
  refine ⟨free.keeps x.toInCall.keep, codeAny_func ?_⟩
  obtain ⟨t, ht, hq⟩ := hb cdv A outer s H vs Q E p hsp
  refine wpAny_mono (ht.run [] s1 (L2.start N vs) H _ (L2H.inv_startH S pin env (len _ _ _ _ hsp) rel x) hq) (fun fl s' hs => ?_) fun e s' hs => hs
  match fl, hs with
  | .ret u, ⟨v, σ', H', J, rv, q⟩ => exact ⟨v, H', J.os, J.bare, J.base, J.hok, rv, q⟩
  | .next, ⟨σ', H', J, q⟩ => exact ⟨V.non, H', J.os, J.bare, J.base, J.hok, (rfl : RelV V.non Value.none), q⟩
  | .brk, ⟨_, _, _, q⟩ => exact q.elim
  | .cont, ⟨_, _, _, q⟩ => exact q.elim
theorem fnU_ok {x qual : Str} {st : Stmt} {f : Addr} {fd : FuncData} {N ps : List Str} {body : M Fl} (F : Fun K x qual st f fd) (S : FnScope N ps (defScope st)) (hl : ps.length ≤ N.length)
    (hb : ∀ (cdv : Value) (A : Around) (outer : List PySem.Env) (s : Shared) (H : Hp) (E : XK) (p : Addr × Obj), PSSx (L2H.cxH (L2.CX P w) P w K mg base N qual (defScope st) f cdv A outer s H E p) (yF cm E) (defBody st) body) :
    FnU P w K mg base 1 f fd ps (spF ⟨K, cm⟩ ps.length (mkF N.length body)) := by
  refine fnU_of (k := 0) F S (fun vs H Q E h => h.1) fun cdv A outer s H vs Q E p h => ⟨_, (hb cdv A outer s H E p).pss, ?_⟩
  obtain ⟨hn, ds, Hk, e, rl, q⟩ := h
  refine ⟨entry N.length ds, Hk, H, entry_re e rl (by omega), ?_⟩
  unfold mkF at q
  cases z : body (entry N.length ds) with
  | bad => rw [z] at q; exact q.elim
  | ex c ns xs e1 =>
    rw [z] at q
    exact fun cls dd σ' Hk' H' k' r' rx => q cls dd Hk' H' k' r'.hk r'.g rx
  | ok fl e1 =>
    rw [z] at q
    cases fl with
    | nx => exact fun σ' Hk' H' k' r' => q .non Hk' H' k' r'.hk r'.g (rp_non (C := ⟨K, cm⟩) (H := Hk'))
    | bk => exact q.elim
    | ct => exact q.elim
    | rt t =>
      intro v σ' Hk' H' k' r' rt
      unfold fin at q
      dsimp only at q
      cases z2 : outTk t e1 with
      | none => rw [z2] at q; exact q.elim
      | some o =>
        obtain ⟨nw, d⟩ := o
        rw [z2] at q
        exact q v Hk' H' k' r'.hk r'.g (outTk_bk r' rt z2)
structure CU (P : Program) (w : World) (K : PySem.W.Frag) (mg : Str → Option Value) (base : Heap) (cm : Nat → Addr) (x : Str) (k : Nat) (ps : List Str) (F : List D → Rf) : Prop where
  ex : ∃ f fd, FnU P w K mg base k f fd ps (spF ⟨K, cm⟩ ps.length F) ∧ mg x = some (.ref f) ∧ PySem.W.keepIn K (.ref f) = true ∧ Binds K fd ps []
end
section
variable {X : Cx} {y : Y} {e : Expr} {es : List Expr} {ma : M (List Tk)} {pos p : Pos} {F : List D → Rf} {k : Nat} {ps : List Str} {x : Str}
theorem roomU {k kk : Nat} {A : Around} {u : Option Value} (h : Room kk A) (hk : k ≤ kk := by decide) : L2H.RoomH k (A.mark u) :=
  ⟨by have := h.dp; show A.depth + 3 * k + 5 < _; omega, by have := h.un; show A.units + 16 * k + 200 < _; omega⟩
theorem px_callU (h : CU X.prog X.w X.K X.mg X.base y.cm x k ps F) (hr : L2H.RoomH k X.A) (hp : ∃ p, p ∈ X.pn) (tk : Takes X y.W) (ha : PAs X y (e :: es) ma) (hn : Many ma ps.length := by repeat first | exact many_nil | refine many_cons ?_) (hg : Gl X x := by rfl) (hdb : (x == ("__debug__" : Str)) = false := by decide)
    (he : starEach (e :: es) X.env = (false, eval e X.env) :: starEach es X.env := by rfl) (hpl : (backTo pos (starEach es X.env)).any (·.1) = false := by rfl) : PX X y (.Call (.Name x p) (e :: es) [] pos) (mCallF F ma) := by
  obtain ⟨f, fd, h1, h2, h3, h4⟩ := h.ex
  obtain ⟨pp, hpp⟩ := hp
  refine ⟨⟨fun pins s σ H Q I hq => ?_⟩⟩
  obtain ⟨env, Hk, G, re, q⟩ := hq
  refine wpAny_Call_Name_kw (ld_glob I hg h2 ?_ hdb)
  have q2 : tA X y ma σ H (fun vs H1 => spF (y.ct X) ps.length F vs H1 Q (WE y.W σ)) := ⟨env, Hk, G, re, pa_bindN hn q fun ts e vs Hk' H1 k1 r1 rs hl q1 => callF_go r1 rs (by rw [← rs.len]; exact hl) q1⟩
  refine PySem.W.callWith_K (h₀ := X.base) I.ok.mod.kin h3 (thn (ha.pa.run pos pins s σ H _ I q2) fun us s1 ⟨vs, H1, I1, r, q3⟩ => ⟨I1.kIn, ?_⟩) he hpl
  have at1 := I1.pin pp (List.mem_append_left _ hpp)
  have bt := h4 s1 us I1.kIn (by rw [List.append_nil, ← r.length]; exact q3.1)
  rw [List.append_nil] at bt
  refine wpAny_call (codeAny_mono (h1.run X.A X.stack s1 H1 ⟨us, []⟩ us vs Q (WE y.W σ) pp hr ⟨at1.1, at1.2.1, fun hm => (List.mem_cons.mp (I1.stkSub pp.1 hm)).elim at1.2.2.1 at1.2.2.2.1, at1.2.2.2.2⟩ I1.env0 bt r q3) fun r s' hq => ?_)
  match r, hq with
  | .error e, hq => exact passAt tk σ pins H1 s1 e s' I1 hq
  | .ok (.ret u), hq => exact I1.after hq
  | .ok .next, hq => exact hq.elim
  | .ok .brk, hq => exact hq.elim
  | .ok .cont, hq => exact hq.elim
end
end VM

set_option maxHeartbeats 4000000
namespace My
open PySem PySem.Spec PyProof.Rows L2 VM
def topS (i : Nat) : Stmt := PySem.Challenge.pw_rankwords_k00_whole_fields_made_and_refu.main.body.getD i (.Pass ⟨0, 0, 0, 0⟩)
abbrev s__law_hand : Stmt := topS 21
abbrev s__law_mixed : Stmt := topS 22
abbrev s__law_take : Stmt := topS 23
abbrev s__law_moduli : Stmt := topS 27
abbrev s__law_figure : Stmt := topS 28
abbrev s__law_spoiled : Stmt := topS 33
abbrev s__law_free : Stmt := topS 32
abbrev s__law_drawn : Stmt := topS 34
abbrev s__law_whole : Stmt := topS 24
abbrev s__law_power : Stmt := topS 25
abbrev s__law_digits : Stmt := topS 26
abbrev s__law_product : Stmt := topS 29
abbrev s__law_parted : Stmt := topS 30
abbrev s__law_due : Stmt := topS 31
abbrev s_is_whole : Stmt := topS 2
abbrev s_is_sequence : Stmt := topS 3
abbrev s_is_digit_row : Stmt := topS 13
abbrev s_power_of : Stmt := topS 4
abbrev s_base_digits : Stmt := topS 11
abbrev s_rest_by_monic : Stmt := topS 14
abbrev s_has_divisor : Stmt := topS 15
abbrev s_field_fault : Stmt := topS 16
abbrev s_digits_value : Stmt := topS 12
abbrev s_sums_of : Stmt := topS 17
abbrev s_products_of : Stmt := topS 18
abbrev s_Field_raised : Stmt := memS (topS 19) 2
abbrev s_Field___init__ : Stmt := memS (topS 19) 0
abbrev s__law_told : Stmt := topS 35
abbrev s_Field___eq__ : Stmt := memS (topS 19) 1
abbrev s_law : Stmt := topS 36
abbrev N__law_hand : List Str := ["_law_script", "_law_total", "_law_cells", "_law_cell"]
abbrev N__law_mixed : List Str := ["_law_number", "_law_turn", "_law_once", "_law_twice"]
abbrev N__law_take : List Str := ["_law_hand_here", "_law_many", "_law_cell", "_law_rest"]
abbrev N__law_moduli : List Str := ["_law_prime", "_law_degree"]
abbrev N__law_figure : List Str := ["_law_hand_here", "_law_most", "_law_menu", "_law_told_here", "_law_prime", "_law_degree", "_law_moduli_here", "_law_one"]
abbrev N__law_spoiled : List Str := ["_law_hand_here", "_law_prime", "_law_modulus", "_law_told_here", "_law_kind", "_law_odd", "_law_at"]
abbrev N__law_free : List Str := ["_law_hand_here", "_law_prime", "_law_many", "_law_told_here", "_law_k"]
abbrev N__law_drawn : List Str := ["_law_hand_here", "_law_prime", "_law_modulus", "_law_way"]
abbrev N__law_whole : List Str := ["_law_thing"]
abbrev N__law_power : List Str := ["_law_base", "_law_exponent", "_law_total", "_law_k"]
abbrev N__law_digits : List Str := ["_law_q", "_law_many", "_law_number", "_law_told_here", "_law_k"]
abbrev N__law_product : List Str := ["_law_q", "_law_one", "_law_other", "_law_told_here", "_law_i", "_law_j"]
abbrev N__law_parted : List Str := ["_law_q", "_law_modulus", "_law_m", "_law_degree", "_law_first", "_law_one", "_law_second"]
abbrev N__law_due : List Str := ["_law_prime", "_law_modulus", "_law_digit"]
abbrev N_is_whole : List Str := ["thing", "low", "high"]
abbrev N_is_sequence : List Str := ["thing"]
abbrev N_is_digit_row : List Str := ["prime", "width", "thing", "digit"]
abbrev N_power_of : List Str := ["base", "exponent", "total", "turn"]
abbrev N_base_digits : List Str := ["prime", "many", "number", "digits", "turn"]
abbrev N_rest_by_monic : List Str := ["prime", "digits", "divisor", "left", "short", "place", "lead", "at", "spot"]
abbrev N_has_divisor : List Str := ["prime", "modulus", "degree", "number", "divisor"]
abbrev N_field_fault : List Str := ["prime", "modulus"]
abbrev N_digits_value : List Str := ["prime", "digits", "total", "digit"]
abbrev N_sums_of : List Str := ["prime", "digit_rows", "table", "one", "row", "other", "a", "b"]
abbrev N_products_of : List Str := ["prime", "modulus", "digit_rows", "sum_rows", "degree", "table", "one", "shifted", "left", "turn", "row", "place", "step", "below"]
abbrev N_Field_raised : List Str := ["self", "thing", "total", "turn"]
abbrev N_Field___init__ : List Str := ["self", "prime", "modulus", "fault", "thing", "row"]
abbrev N__law_told : List Str := ["_law_prime", "_law_modulus", "_law_what", "_law_field", "e"]
abbrev N_Field___eq__ : List Str := ["self", "other"]
abbrev N_law : List Str := ["_law_script", "_law_hand_here", "_law_k", "_law_prime", "_law_modulus", "_law_due_here", "_law_given", "_law_field", "_law_other_prime", "_law_other", "_law_same"]
theorem sc__law_hand : FnScope N__law_hand ["_law_script"] (defScope s__law_hand) := ⟨rfl, rfl, rfl, by decide +kernel, rfl, by decide +kernel, by decide +kernel⟩
theorem sc__law_mixed : FnScope N__law_mixed ["_law_number", "_law_turn"] (defScope s__law_mixed) := ⟨rfl, rfl, rfl, by decide +kernel, rfl, by decide +kernel, by decide +kernel⟩
theorem sc__law_take : FnScope N__law_take ["_law_hand_here", "_law_many"] (defScope s__law_take) := ⟨rfl, rfl, rfl, by decide +kernel, rfl, by decide +kernel, by decide +kernel⟩
theorem sc__law_moduli : FnScope N__law_moduli ["_law_prime", "_law_degree"] (defScope s__law_moduli) := ⟨rfl, rfl, rfl, by decide +kernel, rfl, by decide +kernel, by decide +kernel⟩
theorem sc__law_figure : FnScope N__law_figure ["_law_hand_here", "_law_most"] (defScope s__law_figure) := ⟨rfl, rfl, rfl, by decide +kernel, rfl, by decide +kernel, by decide +kernel⟩
theorem sc__law_spoiled : FnScope N__law_spoiled ["_law_hand_here", "_law_prime", "_law_modulus"] (defScope s__law_spoiled) := ⟨rfl, rfl, rfl, by decide +kernel, rfl, by decide +kernel, by decide +kernel⟩
theorem sc__law_free : FnScope N__law_free ["_law_hand_here", "_law_prime"] (defScope s__law_free) := ⟨rfl, rfl, rfl, by decide +kernel, rfl, by decide +kernel, by decide +kernel⟩
theorem sc__law_drawn : FnScope N__law_drawn ["_law_hand_here"] (defScope s__law_drawn) := ⟨rfl, rfl, rfl, by decide +kernel, rfl, by decide +kernel, by decide +kernel⟩
theorem sc__law_whole : FnScope N__law_whole ["_law_thing"] (defScope s__law_whole) := ⟨rfl, rfl, rfl, by decide +kernel, rfl, by decide +kernel, by decide +kernel⟩
theorem sc__law_power : FnScope N__law_power ["_law_base", "_law_exponent"] (defScope s__law_power) := ⟨rfl, rfl, rfl, by decide +kernel, rfl, by decide +kernel, by decide +kernel⟩
theorem sc__law_digits : FnScope N__law_digits ["_law_q", "_law_many", "_law_number"] (defScope s__law_digits) := ⟨rfl, rfl, rfl, by decide +kernel, rfl, by decide +kernel, by decide +kernel⟩
theorem sc__law_product : FnScope N__law_product ["_law_q", "_law_one", "_law_other"] (defScope s__law_product) := ⟨rfl, rfl, rfl, by decide +kernel, rfl, by decide +kernel, by decide +kernel⟩
theorem sc__law_parted : FnScope N__law_parted ["_law_q", "_law_modulus"] (defScope s__law_parted) := ⟨rfl, rfl, rfl, by decide +kernel, rfl, by decide +kernel, by decide +kernel⟩
theorem sc__law_due : FnScope N__law_due ["_law_prime", "_law_modulus"] (defScope s__law_due) := ⟨rfl, rfl, rfl, by decide +kernel, rfl, by decide +kernel, by decide +kernel⟩
theorem sc_is_whole : FnScope N_is_whole ["thing", "low", "high"] (defScope s_is_whole) := ⟨rfl, rfl, rfl, by decide +kernel, rfl, by decide +kernel, by decide +kernel⟩
theorem sc_is_sequence : FnScope N_is_sequence ["thing"] (defScope s_is_sequence) := ⟨rfl, rfl, rfl, by decide +kernel, rfl, by decide +kernel, by decide +kernel⟩
theorem sc_is_digit_row : FnScope N_is_digit_row ["prime", "width", "thing"] (defScope s_is_digit_row) := ⟨rfl, rfl, rfl, by decide +kernel, rfl, by decide +kernel, by decide +kernel⟩
theorem sc_power_of : FnScope N_power_of ["base", "exponent"] (defScope s_power_of) := ⟨rfl, rfl, rfl, by decide +kernel, rfl, by decide +kernel, by decide +kernel⟩
theorem sc_base_digits : FnScope N_base_digits ["prime", "many", "number"] (defScope s_base_digits) := ⟨rfl, rfl, rfl, by decide +kernel, rfl, by decide +kernel, by decide +kernel⟩
theorem sc_rest_by_monic : FnScope N_rest_by_monic ["prime", "digits", "divisor"] (defScope s_rest_by_monic) := ⟨rfl, rfl, rfl, by decide +kernel, rfl, by decide +kernel, by decide +kernel⟩
theorem sc_has_divisor : FnScope N_has_divisor ["prime", "modulus"] (defScope s_has_divisor) := ⟨rfl, rfl, rfl, by decide +kernel, rfl, by decide +kernel, by decide +kernel⟩
theorem sc_field_fault : FnScope N_field_fault ["prime", "modulus"] (defScope s_field_fault) := ⟨rfl, rfl, rfl, by decide +kernel, rfl, by decide +kernel, by decide +kernel⟩
theorem sc_digits_value : FnScope N_digits_value ["prime", "digits"] (defScope s_digits_value) := ⟨rfl, rfl, rfl, by decide +kernel, rfl, by decide +kernel, by decide +kernel⟩
theorem sc_sums_of : FnScope N_sums_of ["prime", "digit_rows"] (defScope s_sums_of) := ⟨rfl, rfl, rfl, by decide +kernel, rfl, by decide +kernel, by decide +kernel⟩
theorem sc_products_of : FnScope N_products_of ["prime", "modulus", "digit_rows", "sum_rows"] (defScope s_products_of) := ⟨rfl, rfl, rfl, by decide +kernel, rfl, by decide +kernel, by decide +kernel⟩
theorem sc_Field_raised : FnScope N_Field_raised ["self", "thing"] (defScope s_Field_raised) := ⟨rfl, rfl, rfl, by decide +kernel, rfl, by decide +kernel, by decide +kernel⟩
theorem sc_Field___init__ : FnScope N_Field___init__ ["self", "prime", "modulus"] (defScope s_Field___init__) := ⟨rfl, rfl, rfl, by decide +kernel, rfl, by decide +kernel, by decide +kernel⟩
theorem sc__law_told : FnScope N__law_told ["_law_prime", "_law_modulus"] (defScope s__law_told) := ⟨rfl, rfl, rfl, by decide +kernel, rfl, by decide +kernel, by decide +kernel⟩
theorem sc_Field___eq__ : FnScope N_Field___eq__ ["self", "other"] (defScope s_Field___eq__) := ⟨rfl, rfl, rfl, by decide +kernel, rfl, by decide +kernel, by decide +kernel⟩
theorem sc_law : FnScope N_law ["_law_script"] (defScope s_law) := ⟨rfl, rfl, rfl, by decide +kernel, rfl, by decide +kernel, by decide +kernel⟩
abbrev sI_BadField : Stmt := memS (topS 7) 0
theorem scI_BadField : FnScope ["self", "what"] ["self", "what"] (defScope sI_BadField) := ⟨rfl, rfl, rfl, by decide +kernel, rfl, by decide +kernel, by decide +kernel⟩
abbrev cl_Field : Nat := 0
abbrev cl_BadField : Nat := 1
abbrev cl_RankError : Nat := 2
abbrev cl_BadThing : Nat := 3
def tabE : List (Nat × D × Bool) := [(cl_BadField, .cl cl_BadField, true)]
def subE : Nat → D → Option Bool := subOf tabE
theorem subE_BadField_BadField : subE cl_BadField (.cl cl_BadField) = some true := by decide
abbrev xs_0 : List Nat := [cl_BadField]
theorem in_xs_0_BadField : (cl_BadField ∈ xs_0) = True := by decide
abbrev fa_modulus : List Nat := [cl_Field]
theorem fc_modulus_Field : (fa_modulus.contains cl_Field = true) = True := by decide
abbrev fa_size : List Nat := [cl_Field]
theorem fc_size_Field : (fa_size.contains cl_Field = true) = True := by decide
abbrev fa_prime : List Nat := [cl_Field]
theorem fc_prime_Field : (fa_prime.contains cl_Field = true) = True := by decide
abbrev fa_degree : List Nat := [cl_Field]
theorem fc_degree_Field : (fa_degree.contains cl_Field = true) = True := by decide
abbrev fa_digit_rows : List Nat := [cl_Field]
theorem fc_digit_rows_Field : (fa_digit_rows.contains cl_Field = true) = True := by decide
abbrev fa_sum_rows : List Nat := [cl_Field]
theorem fc_sum_rows_Field : (fa_sum_rows.contains cl_Field = true) = True := by decide
abbrev fa_product_rows : List Nat := [cl_Field]
theorem fc_product_rows_Field : (fa_product_rows.contains cl_Field = true) = True := by decide
abbrev fa_negatives : List Nat := [cl_Field]
theorem fc_negatives_Field : (fa_negatives.contains cl_Field = true) = True := by decide
abbrev fa_inverses : List Nat := [cl_Field]
theorem fc_inverses_Field : (fa_inverses.contains cl_Field = true) = True := by decide
abbrev fa_step_row : List Nat := [cl_Field]
theorem fc_step_row_Field : (fa_step_row.contains cl_Field = true) = True := by decide
def tabI : STab := [(.inr cl_Field, .inl "list", false), (.inr cl_Field, .inl "tuple", false), (.inr cl_Field, .inl "int", false), (.inr cl_Field, .inl "bool", false), (.inr cl_Field, .inr cl_Field, true), (.inl "NoneType", .inr cl_Field, false), (.inl "bool", .inr cl_Field, false), (.inl "int", .inr cl_Field, false), (.inl "str", .inr cl_Field, false), (.inl "list", .inr cl_Field, false), (.inl "tuple", .inr cl_Field, false), (.inl "dict", .inr cl_Field, false)]
def subIs : D → D → Option Bool := subC tabI
abbrev icIs : List Nat := [cl_Field]
def tabX : STab := [(.inr cl_BadField, .inr cl_RankError, true), (.inr cl_BadField, .inl "ValueError", true), (.inr cl_BadField, .inr cl_BadThing, false)]
def subXs : Nat → D → Option Bool := subX tabX
theorem subXs_BadField_RankError : subXs cl_BadField (.cl cl_RankError) = some true := by decide
theorem subXs_BadField_ValueError : subXs cl_BadField (.ty "ValueError") = some true := by decide
theorem subXs_BadField_BadThing : subXs cl_BadField (.cl cl_BadThing) = some false := by decide
def L__law_hand_1 : M Fl :=
  (mSeq (mAsg 1 (mBin dMod (mCall (fn1 dInt) (mCons (mBin dAdd (mBin dMul (mVar 1) (mC (.int 2003))) (mCall (fn1 dInt) (mCons (mVar 3) mNil))) mNil)) (mC (.int 2147483563))))
  (mDrop (mApp 2 (mCall (fn1 dAbs) (mCons (mCall (fn1 dInt) (mCons (mVar 3) mNil)) mNil)))))
def B__law_hand : M Fl :=
  (mSeq (mAsg 1 (mBin dAdd (mCall (fn1 dLen) (mCons (mVar 0) mNil)) (mC (.int 43))))
  (mSeq (mAsg 2 (mLst mNil))
  (mSeq (mFor (mIter (mVar 0)) (gN 3) [3] L__law_hand_1)
  (mRet (mLst (mCons (mVar 2) (mCons (mC (.int 0)) (mCons (mC (.int 0)) (mCons (mVar 1) mNil)))))))))
def F__law_hand : List D → Rf := mkF 4 B__law_hand
def B__law_mixed : M Fl :=
  (mSeq (mAsg 2 (mBin dMod (mCall (fn1 dInt) (mCons (mBin dAdd (mBin dAdd (mBin dMul (mVar 0) (mC (.int 39373))) (mBin dMul (mVar 1) (mC (.int 6151)))) (mC (.int 50021))) mNil)) (mC (.int 2147483399))))
  (mSeq (mAsg 3 (mBin dMod (mCall (fn1 dInt) (mCons (mBin dAdd (mBin dAdd (mBin dMul (mVar 2) (mVar 2)) (mBin dMul (mVar 1) (mC (.int 81071)))) (mBin dDiv (mVar 2) (mC (.int 137)))) mNil)) (mC (.int 2147483629))))
  (mRet (mBin dDiv (mCall (fn1 dInt) (mCons (mBin dMod (mCall (fn1 dInt) (mCons (mBin dAdd (mBin dMul (mVar 3) (mC (.int 62089))) (mBin dDiv (mVar 2) (mC (.int 11)))) mNil)) (mC (.int 2147483587))) mNil)) (mC (.int 64))))))
def F__law_mixed : List D → Rf := mkF 4 B__law_mixed
def B__law_take : M Fl :=
  (mSeq (mIfS (mAnd (mCmp cEq (mBin dIx (mVar 0) (mC (.int 2))) (mC (.int 0))) (mCmp cLt (mBin dIx (mVar 0) (mC (.int 1))) (mCall (fn1 dLen) (mCons (mBin dIx (mVar 0) (mC (.int 0))) mNil)))) (mSeq (mAsg 2 (mBin dIx (mBin dIx (mVar 0) (mC (.int 0))) (mBin dIx (mVar 0) (mC (.int 1)))))
  (mSeq (mSetI 0 (mC (.int 1)) (mBin dAdd (mBin dIx (mVar 0) (mC (.int 1))) (mC (.int 1))))
  (mSeq (mIfS (mCmp cLt (mVar 2) (mBin dPow (mC (.int 10)) (mC (.int 18)))) (mRet (mBin dMod (mCall (fn1 dInt) (mCons (mCallF F__law_mixed (mCons (mBin dMod (mCall (fn1 dInt) (mCons (mVar 2) mNil)) (mC (.int 2147483399))) (mCons (mBin dIx (mVar 0) (mC (.int 1))) mNil))) mNil)) (mVar 1))) mNext)
  (mSetI 0 (mC (.int 2)) (mVar 2))))) mNext)
  (mSeq (mIfS (mCmp cGt (mBin dIx (mVar 0) (mC (.int 2))) (mC (.int 0))) (mSeq (mAsg 3 (mBin dIx (mVar 0) (mC (.int 2))))
  (mSeq (mSetI 0 (mC (.int 2)) (mBin dDiv (mCall (fn1 dInt) (mCons (mVar 3) mNil)) (mVar 1)))
  (mRet (mBin dMod (mCall (fn1 dInt) (mCons (mVar 3) mNil)) (mVar 1))))) mNext)
  (mSeq (mSetI 0 (mC (.int 3)) (mBin dMod (mCall (fn1 dInt) (mCons (mBin dAdd (mBin dIx (mVar 0) (mC (.int 3))) (mC (.int 1))) mNil)) (mC (.int 2147483549))))
  (mRet (mBin dMod (mCall (fn1 dInt) (mCons (mCallF F__law_mixed (mCons (mBin dIx (mVar 0) (mC (.int 3))) (mCons (mBin dIx (mVar 0) (mC (.int 1))) mNil))) mNil)) (mVar 1))))))
def F__law_take : List D → Rf := mkIO 4 B__law_take
def B__law_moduli : M Fl :=
  (mSeq (mIfS (mCmp cEq (mVar 0) (mC (.int 2))) (mSeq (mIfS (mCmp cEq (mVar 1) (mC (.int 1))) (mRet (mLst (mCons (mTup (mCons (mC (.int 0)) (mCons (mC (.int 1)) mNil))) (mCons (mTup (mCons (mC (.int 1)) (mCons (mC (.int 1)) mNil))) mNil)))) mNext)
  (mSeq (mIfS (mCmp cEq (mVar 1) (mC (.int 2))) (mRet (mLst (mCons (mTup (mCons (mC (.int 1)) (mCons (mC (.int 1)) (mCons (mC (.int 1)) mNil)))) mNil))) mNext)
  (mSeq (mIfS (mCmp cEq (mVar 1) (mC (.int 3))) (mRet (mLst (mCons (mTup (mCons (mC (.int 1)) (mCons (mC (.int 1)) (mCons (mC (.int 0)) (mCons (mC (.int 1)) mNil))))) (mCons (mTup (mCons (mC (.int 1)) (mCons (mC (.int 0)) (mCons (mC (.int 1)) (mCons (mC (.int 1)) mNil))))) mNil)))) mNext)
  (mRet (mLst (mCons (mTup (mCons (mC (.int 1)) (mCons (mC (.int 1)) (mCons (mC (.int 0)) (mCons (mC (.int 0)) (mCons (mC (.int 1)) mNil)))))) (mCons (mTup (mCons (mC (.int 1)) (mCons (mC (.int 0)) (mCons (mC (.int 0)) (mCons (mC (.int 1)) (mCons (mC (.int 1)) mNil)))))) (mCons (mTup (mCons (mC (.int 1)) (mCons (mC (.int 1)) (mCons (mC (.int 1)) (mCons (mC (.int 1)) (mCons (mC (.int 1)) mNil)))))) mNil)))))))) mNext)
  (mSeq (mIfS (mCmp cEq (mVar 1) (mC (.int 1))) (mRet (mLst (mCons (mTup (mCons (mC (.int 0)) (mCons (mC (.int 1)) mNil))) (mCons (mTup (mCons (mC (.int 1)) (mCons (mC (.int 1)) mNil))) (mCons (mTup (mCons (mC (.int 2)) (mCons (mC (.int 1)) mNil))) mNil))))) mNext)
  (mSeq (mIfS (mCmp cEq (mVar 1) (mC (.int 2))) (mRet (mLst (mCons (mTup (mCons (mC (.int 1)) (mCons (mC (.int 0)) (mCons (mC (.int 1)) mNil)))) (mCons (mTup (mCons (mC (.int 2)) (mCons (mC (.int 1)) (mCons (mC (.int 1)) mNil)))) (mCons (mTup (mCons (mC (.int 2)) (mCons (mC (.int 2)) (mCons (mC (.int 1)) mNil)))) mNil))))) mNext)
  (mRet (mLst (mCons (mTup (mCons (mC (.int 1)) (mCons (mC (.int 2)) (mCons (mC (.int 0)) (mCons (mC (.int 1)) mNil))))) (mCons (mTup (mCons (mC (.int 2)) (mCons (mC (.int 2)) (mCons (mC (.int 0)) (mCons (mC (.int 1)) mNil))))) (mCons (mTup (mCons (mC (.int 2)) (mCons (mC (.int 0)) (mCons (mC (.int 1)) (mCons (mC (.int 1)) mNil))))) (mCons (mTup (mCons (mC (.int 2)) (mCons (mC (.int 1)) (mCons (mC (.int 1)) (mCons (mC (.int 1)) mNil))))) (mCons (mTup (mCons (mC (.int 1)) (mCons (mC (.int 2)) (mCons (mC (.int 1)) (mCons (mC (.int 1)) mNil))))) (mCons (mTup (mCons (mC (.int 1)) (mCons (mC (.int 0)) (mCons (mC (.int 2)) (mCons (mC (.int 1)) mNil))))) (mCons (mTup (mCons (mC (.int 1)) (mCons (mC (.int 1)) (mCons (mC (.int 2)) (mCons (mC (.int 1)) mNil))))) (mCons (mTup (mCons (mC (.int 2)) (mCons (mC (.int 2)) (mCons (mC (.int 2)) (mCons (mC (.int 1)) mNil))))) mNil)))))))))))))
def F__law_moduli : List D → Rf := mkF 2 B__law_moduli
def L__law_figure_1 : M Tk :=
  (mVar 7)
def B__law_figure : M Fl :=
  (mSeq (mAsg 2 (mLst (mCons (mTup (mCons (mC (.int 2)) (mCons (mC (.int 3)) mNil))) (mCons (mTup (mCons (mC (.int 2)) (mCons (mC (.int 2)) mNil))) (mCons (mTup (mCons (mC (.int 3)) (mCons (mC (.int 2)) mNil))) (mCons (mTup (mCons (mC (.int 2)) (mCons (mC (.int 4)) mNil))) (mCons (mTup (mCons (mC (.int 2)) (mCons (mC (.int 3)) mNil))) (mCons (mTup (mCons (mC (.int 3)) (mCons (mC (.int 2)) mNil))) (mCons (mTup (mCons (mC (.int 3)) (mCons (mC (.int 3)) mNil))) (mCons (mTup (mCons (mC (.int 2)) (mCons (mC (.int 2)) mNil))) (mCons (mTup (mCons (mC (.int 2)) (mCons (mC (.int 4)) mNil))) (mCons (mTup (mCons (mC (.int 2)) (mCons (mC (.int 3)) mNil))) (mCons (mTup (mCons (mC (.int 3)) (mCons (mC (.int 2)) mNil))) (mCons (mTup (mCons (mC (.int 2)) (mCons (mC (.int 4)) mNil))) (mCons (mTup (mCons (mC (.int 2)) (mCons (mC (.int 3)) mNil))) (mCons (mTup (mCons (mC (.int 3)) (mCons (mC (.int 3)) mNil))) (mCons (mTup (mCons (mC (.int 2)) (mCons (mC (.int 1)) mNil))) (mCons (mTup (mCons (mC (.int 3)) (mCons (mC (.int 1)) mNil))) mNil))))))))))))))))))
  (mSeq (mAsg 3 (mLc (mIter (mVar 2)) (gN 7) [7] (mCmp cLe (mBin dIx (mVar 7) (mC (.int 1))) (mVar 1)) L__law_figure_1))
  (mSeq (mAsgG (gT 2 (gs1 (gN 4) (gs1 (gN 5) gs0))) (mBin dIx (mVar 3) (mCallIO F__law_take 0 (mCons (mCall (fn1 dLen) (mCons (mVar 3) mNil)) mNil))))
  (mSeq (mAsg 6 (mCallF F__law_moduli (mCons (mVar 4) (mCons (mVar 5) mNil))))
  (mRet (mTup (mCons (mVar 4) (mCons (mBin dIx (mVar 6) (mCallIO F__law_take 0 (mCons (mCall (fn1 dLen) (mCons (mVar 6) mNil)) mNil))) mNil))))))))
def F__law_figure : List D → Rf := mkIO 8 B__law_figure
def B__law_spoiled : M Fl :=
  (mSeq (mAsg 3 (mCall (fn1 dList) (mCons (mVar 2) mNil)))
  (mSeq (mAsg 4 (mCallIO F__law_take 0 (mCons (mC (.int 5)) mNil)))
  (mSeq (mIfS (mCmp cEq (mVar 4) (mC (.int 0))) (mSeq (mAsg 5 (mTup (mCons (mC (.bl true)) (mCons (mC (.int 0)) (mCons (mUn dNeg (mC (.int 2))) (mCons (mC (.int 4)) (mCons (mC (.int 5)) (mCons (mC .non) (mCons (mC (.str "2")) (mCons (mTup (mCons (mC (.int 2)) mNil)) (mCons (mC (.int 1)) (mCons (mUn dNeg (mC (.int 3))) mNil))))))))))))
  (mRet (mTup (mCons (mBin dIx (mVar 5) (mCallIO F__law_take 0 (mCons (mC (.int 10)) mNil))) (mCons (mVar 3) mNil))))) mNext)
  (mSeq (mIfS (mCmp cEq (mVar 4) (mC (.int 1))) (mSeq (mAsg 5 (mTup (mCons (mC .non) (mCons (mC (.str "11")) (mCons (mC (.int 3)) (mCons mNewD (mCons (mC (.bl true)) mNil)))))))
  (mRet (mTup (mCons (mVar 1) (mCons (mBin dIx (mVar 5) (mCallIO F__law_take 0 (mCons (mC (.int 5)) mNil))) mNil))))) mNext)
  (mSeq (mAsg 6 (mCallIO F__law_take 0 (mCons (mCall (fn1 dLen) (mCons (mVar 3) mNil)) mNil)))
  (mSeq (mAsg 5 (mTup (mCons (mVar 1) (mCons (mUn dNeg (mC (.int 1))) (mCons (mC (.bl true)) (mCons (mC .non) (mCons (mC (.str "1")) (mCons (mTup (mCons (mC (.int 1)) mNil)) (mCons (mBin dPow (mC (.int 10)) (mC (.int 20))) (mCons (mC (.bl false)) mNil))))))))))
  (mSeq (mSetI 3 (mVar 6) (mBin dIx (mVar 5) (mCallIO F__law_take 0 (mCons (mC (.int 8)) mNil))))
  (mSeq (mIfS (mCmp cEq (mVar 4) (mC (.int 2))) (mSeq (mAsg 5 (mTup (mCons (mC (.bl true)) (mCons (mC (.int 4)) (mCons (mC (.str "3")) mNil)))))
  (mRet (mTup (mCons (mBin dIx (mVar 5) (mCallIO F__law_take 0 (mCons (mC (.int 3)) mNil))) (mCons (mVar 3) mNil))))) mNext)
  (mRet (mTup (mCons (mVar 1) (mCons (mIf (mCmp cEq (mVar 4) (mC (.int 3))) (mCall (fn1 dTuple) (mCons (mVar 3) mNil)) (mVar 3)) mNil))))))))))))
def F__law_spoiled : List D → Rf := mkIO 7 B__law_spoiled
def L__law_free_1 : M Tk :=
  (mCallIO F__law_take 0 (mCons (mVar 1) mNil))
def B__law_free : M Fl :=
  (mSeq (mAsg 2 (mBin dAdd (mC (.int 2)) (mCallIO F__law_take 0 (mCons (mC (.int 4)) mNil))))
  (mSeq (mIfS (mCmp cEq (mCallIO F__law_take 0 (mCons (mC (.int 8)) mNil)) (mC (.int 0))) (mAsg 2 (mBin dIx (mTup (mCons (mC (.int 1)) (mCons (mC (.int 6)) mNil))) (mCallIO F__law_take 0 (mCons (mC (.int 2)) mNil)))) mNext)
  (mSeq (mAsg 3 (mLc (mRng (mCons (mVar 2) mNil)) (gN 4) [4] mYes L__law_free_1))
  (mSeq (mIfS (mCmp cGt (mCallIO F__law_take 0 (mCons (mC (.int 4)) mNil)) (mC (.int 0))) (mSetI 3 (mUn dNeg (mC (.int 1))) (mC (.int 1))) mNext)
  (mRet (mVar 3))))))
def F__law_free : List D → Rf := mkIO 5 B__law_free
def B__law_drawn : M Fl :=
  (mSeq (mAsgG (gT 2 (gs1 (gN 1) (gs1 (gN 2) gs0))) (mCallIO F__law_figure 0 (mCons (mC (.int 4)) mNil)))
  (mSeq (mAsg 3 (mCallIO F__law_take 0 (mCons (mC (.int 4)) mNil)))
  (mSeq (mIfS (mCmp cEq (mVar 3) (mC (.int 0))) (mRet (mTup (mCons (mVar 1) (mCons (mCall (fn1 dTuple) (mCons (mVar 2) mNil)) mNil)))) mNext)
  (mSeq (mIfS (mCmp cEq (mVar 3) (mC (.int 1))) (mRet (mCallIO F__law_spoiled 0 (mCons (mVar 1) (mCons (mVar 2) mNil)))) mNext)
  (mSeq (mAsg 1 (mBin dAdd (mC (.int 2)) (mCallIO F__law_take 0 (mCons (mC (.int 2)) mNil))))
  (mRet (mTup (mCons (mVar 1) (mCons (mCallIO F__law_free 0 (mCons (mVar 1) mNil)) mNil)))))))))
def F__law_drawn : List D → Rf := mkIO 4 B__law_drawn
def B__law_whole : M Fl :=
  (mRet (mAndV (mCall (fn2 (dIsi subIs icIs)) (mCons (mVar 0) (mCons (mC (.ty "int")) mNil))) (mNotV (mCall (fn2 (dIsi subIs icIs)) (mCons (mVar 0) (mCons (mC (.ty "bool")) mNil))))))
def F__law_whole : List D → Rf := mkF 1 B__law_whole
def L__law_power_1 : M Fl :=
  (mAsg 2 (mBin dMul (mVar 2) (mVar 0)))
def B__law_power : M Fl :=
  (mSeq (mAsg 2 (mC (.int 1)))
  (mSeq (mFor (mRng (mCons (mVar 1) mNil)) (gN 3) [3] L__law_power_1)
  (mRet (mVar 2))))
def F__law_power : List D → Rf := mkF 4 B__law_power
def L__law_digits_1 : M Fl :=
  (mSeq (mDrop (mApp 3 (mBin dMod (mCall (fn1 dInt) (mCons (mVar 2) mNil)) (mVar 0))))
  (mAsg 2 (mBin dDiv (mCall (fn1 dInt) (mCons (mVar 2) mNil)) (mVar 0))))
def B__law_digits : M Fl :=
  (mSeq (mAsg 3 (mLst mNil))
  (mSeq (mFor (mRng (mCons (mVar 1) mNil)) (gN 4) [4] L__law_digits_1)
  (mRet (mVar 3))))
def F__law_digits : List D → Rf := mkF 5 B__law_digits
def L__law_product_1 : M Fl :=
  (mSetI 3 (mBin dAdd (mVar 4) (mVar 5)) (mBin dMod (mCall (fn1 dInt) (mCons (mBin dAdd (mBin dIx (mVar 3) (mBin dAdd (mVar 4) (mVar 5))) (mBin dMul (mBin dIx (mVar 1) (mVar 4)) (mBin dIx (mVar 2) (mVar 5)))) mNil)) (mVar 0)))
def L__law_product_2 : M Fl :=
  (mFor (mRng (mCons (mCall (fn1 dLen) (mCons (mVar 2) mNil)) mNil)) (gN 5) [5] L__law_product_1)
def B__law_product : M Fl :=
  (mSeq (mAsg 3 (mBin dMul (mLst (mCons (mC (.int 0)) mNil)) (mBin dSub (mBin dAdd (mCall (fn1 dLen) (mCons (mVar 1) mNil)) (mCall (fn1 dLen) (mCons (mVar 2) mNil))) (mC (.int 1)))))
  (mSeq (mFor (mRng (mCons (mCall (fn1 dLen) (mCons (mVar 1) mNil)) mNil)) (gN 4) [4, 5] L__law_product_2)
  (mRet (mVar 3))))
def F__law_product : List D → Rf := mkF 6 B__law_product
def L__law_parted_1 : M Fl :=
  (mIfS (mCmp cEq (mCallF F__law_product (mCons (mVar 0) (mCons (mVar 5) (mCons (mBin dAdd (mCallF F__law_digits (mCons (mVar 0) (mCons (mBin dSub (mVar 2) (mVar 3)) (mCons (mVar 6) mNil)))) (mLst (mCons (mC (.int 1)) mNil))) mNil)))) (mVar 1)) (mRet (mC (.bl true))) mNext)
def L__law_parted_2 : M Fl :=
  (mSeq (mAsg 5 (mBin dAdd (mCallF F__law_digits (mCons (mVar 0) (mCons (mVar 3) (mCons (mVar 4) mNil)))) (mLst (mCons (mC (.int 1)) mNil))))
  (mFor (mRng (mCons (mCallF F__law_power (mCons (mVar 0) (mCons (mBin dSub (mVar 2) (mVar 3)) mNil))) mNil)) (gN 6) [6] L__law_parted_1))
def L__law_parted_3 : M Fl :=
  (mFor (mRng (mCons (mCallF F__law_power (mCons (mVar 0) (mCons (mVar 3) mNil))) mNil)) (gN 4) [4, 5, 6] L__law_parted_2)
def B__law_parted : M Fl :=
  (mSeq (mAsg 2 (mBin dSub (mCall (fn1 dLen) (mCons (mVar 1) mNil)) (mC (.int 1))))
  (mSeq (mFor (mRng (mCons (mC (.int 1)) (mCons (mBin dAdd (mBin dDiv (mVar 2) (mC (.int 2))) (mC (.int 1))) mNil))) (gN 3) [3, 4, 5, 6] L__law_parted_3)
  (mRet (mC (.bl false)))))
def F__law_parted : List D → Rf := mkF 7 B__law_parted
def L__law_due_1 : M Fl :=
  (mIfS (mOr (mNot (mTest (mCallF F__law_whole (mCons (mVar 2) mNil)))) (mOr (mCmp cLt (mVar 2) (mC (.int 0))) (mCmp cGe (mVar 2) (mVar 0)))) (mRet (mC (.str "modulus"))) mNext)
def B__law_due : M Fl :=
  (mSeq (mIfS (mOr (mNot (mTest (mCallF F__law_whole (mCons (mVar 0) mNil)))) (mCmp cNotIn (mVar 0) (mTup (mCons (mC (.int 2)) (mCons (mC (.int 3)) mNil))))) (mRet (mC (.str "prime"))) mNext)
  (mSeq (mIfS (mOr (mNot (mTest (mCall (fn2 (dIsi subIs icIs)) (mCons (mVar 1) (mCons (mTup (mCons (mC (.ty "list")) (mCons (mC (.ty "tuple")) mNil))) mNil))))) (mOr (mCmp cLt (mCall (fn1 dLen) (mCons (mVar 1) mNil)) (mC (.int 2))) (mCmp cGt (mCall (fn1 dLen) (mCons (mVar 1) mNil)) (mC (.int 5))))) (mRet (mC (.str "modulus"))) mNext)
  (mSeq (mFor (mIter (mVar 1)) (gN 2) [2] L__law_due_1)
  (mSeq (mIfS (mCmp cNe (mBin dIx (mVar 1) (mUn dNeg (mC (.int 1)))) (mC (.int 1))) (mRet (mC (.str "modulus"))) mNext)
  (mSeq (mIfS (mAnd (mCmp cEq (mVar 0) (mC (.int 3))) (mCmp cEq (mCall (fn1 dLen) (mCons (mVar 1) mNil)) (mC (.int 5)))) (mRet (mC (.str "size"))) mNext)
  (mSeq (mIfS (mTest (mCallF F__law_parted (mCons (mVar 0) (mCons (mCall (fn1 dList) (mCons (mVar 1) mNil)) mNil)))) (mRet (mC (.str "divisor"))) mNext)
  (mRet (mC .non))))))))
def F__law_due : List D → Rf := mkF 3 B__law_due
def B_is_whole : M Fl :=
  (mSeq (mIfS (mOr (mNot (mTest (mCall (fn2 (dIsi subIs icIs)) (mCons (mVar 0) (mCons (mC (.ty "int")) mNil))))) (mTest (mCall (fn2 (dIsi subIs icIs)) (mCons (mVar 0) (mCons (mC (.ty "bool")) mNil))))) (mRet (mC (.bl false))) mNext)
  (mSeq (mIfS (mAnd (mCmp cIsNot (mVar 1) (mC .non)) (mCmp cLt (mVar 0) (mVar 1))) (mRet (mC (.bl false))) mNext)
  (mRet (mOrV (mBin (lift cIs) (mVar 2) (mC .non)) (mBin (lift cLe) (mVar 0) (mVar 2))))))
def F_is_whole : List D → Rf := mkF 3 B_is_whole
def B_is_sequence : M Fl :=
  (mRet (mCall (fn2 (dIsi subIs icIs)) (mCons (mVar 0) (mCons (mTup (mCons (mC (.ty "list")) (mCons (mC (.ty "tuple")) mNil))) mNil))))
def F_is_sequence : List D → Rf := mkF 1 B_is_sequence
def L_is_digit_row_1 : M Tk :=
  (mCallF F_is_whole (mCons (mVar 3) (mCons (mC (.int 0)) (mCons (mBin dSub (mVar 0) (mC (.int 1))) mNil))))
def B_is_digit_row : M Fl :=
  (mSeq (mIfS (mOr (mNot (mTest (mCallF F_is_sequence (mCons (mVar 2) mNil)))) (mCmp cNe (mCall (fn1 dLen) (mCons (mVar 2) mNil)) (mVar 1))) (mRet (mC (.bl false))) mNext)
  (mRet (mCall (fn1 dAllN) (mCons (mLc (mIter (mVar 2)) (gN 3) [3] mYes L_is_digit_row_1) mNil))))
def F_is_digit_row : List D → Rf := mkF 4 B_is_digit_row
def L_power_of_1 : M Fl :=
  (mAsg 2 (mBin dMul (mVar 2) (mVar 0)))
def B_power_of : M Fl :=
  (mSeq (mAsg 2 (mC (.int 1)))
  (mSeq (mFor (mRng (mCons (mVar 1) mNil)) (gN 3) [3] L_power_of_1)
  (mRet (mVar 2))))
def F_power_of : List D → Rf := mkF 4 B_power_of
def L_base_digits_1 : M Fl :=
  (mSeq (mDrop (mApp 3 (mBin dMod (mVar 2) (mVar 0))))
  (mAsg 2 (mBin dDiv (mVar 2) (mVar 0))))
def B_base_digits : M Fl :=
  (mSeq (mAsg 3 (mLst mNil))
  (mSeq (mFor (mRng (mCons (mVar 1) mNil)) (gN 4) [4] L_base_digits_1)
  (mRet (mCall (fn1 dTuple) (mCons (mVar 3) mNil)))))
def F_base_digits : List D → Rf := mkF 5 B_base_digits
def L_rest_by_monic_1 : M Fl :=
  (mSeq (mAsg 8 (mBin dAdd (mBin dSub (mVar 5) (mVar 4)) (mVar 7)))
  (mSetI 3 (mVar 8) (mBin dMod (mBin dSub (mBin dIx (mVar 3) (mVar 8)) (mBin dMul (mVar 6) (mBin dIx (mVar 2) (mVar 7)))) (mVar 0))))
def L_rest_by_monic_2 : M Fl :=
  (mSeq (mAsg 6 (mBin dIx (mVar 3) (mVar 5)))
  (mFor (mRng (mCons (mBin dAdd (mVar 4) (mC (.int 1))) mNil)) (gN 7) [7, 8] L_rest_by_monic_1))
def B_rest_by_monic : M Fl :=
  (mSeq (mAsg 3 (mCall (fn1 dList) (mCons (mVar 1) mNil)))
  (mSeq (mAsg 4 (mBin dSub (mCall (fn1 dLen) (mCons (mVar 2) mNil)) (mC (.int 1))))
  (mSeq (mFor (mWalk wDn (mCons (mBin dSub (mCall (fn1 dLen) (mCons (mVar 3) mNil)) (mC (.int 1))) (mCons (mBin dSub (mVar 4) (mC (.int 1))) (mCons (mUn dNeg (mC (.int 1))) mNil)))) (gN 5) [5, 6, 7, 8] L_rest_by_monic_2)
  (mRet (mSlice (mVar 3) (mPart none) (mPart (some (mVar 4))))))))
def F_rest_by_monic : List D → Rf := mkF 9 B_rest_by_monic
def L_has_divisor_1 : M Fl :=
  (mSeq (mAsg 4 (mBin dAdd (mCallF F_base_digits (mCons (mVar 0) (mCons (mVar 2) (mCons (mVar 3) mNil)))) (mTup (mCons (mC (.int 1)) mNil))))
  (mIfS (mNot (mTest (mCall (fn1 dAnyN) (mCons (mCallF F_rest_by_monic (mCons (mVar 0) (mCons (mVar 1) (mCons (mVar 4) mNil)))) mNil)))) (mRet (mC (.bl true))) mNext))
def L_has_divisor_2 : M Fl :=
  (mFor (mRng (mCons (mCallF F_power_of (mCons (mVar 0) (mCons (mVar 2) mNil))) mNil)) (gN 3) [3, 4] L_has_divisor_1)
def B_has_divisor : M Fl :=
  (mSeq (mFor (mRng (mCons (mC (.int 1)) (mCons (mBin dAdd (mBin dDiv (mBin dSub (mCall (fn1 dLen) (mCons (mVar 1) mNil)) (mC (.int 1))) (mC (.int 2))) (mC (.int 1))) mNil))) (gN 2) [2, 3, 4] L_has_divisor_2)
  (mRet (mC (.bl false))))
def F_has_divisor : List D → Rf := mkF 5 B_has_divisor
def B_field_fault : M Fl :=
  (mSeq (mIfS (mNot (mTest (mCallF F_is_whole (mCons (mVar 0) (mCons (mC (.int 2)) (mCons (mC (.int 3)) mNil)))))) (mRet (mC (.str "prime"))) mNext)
  (mSeq (mIfS (mOr (mNot (mTest (mCallF F_is_sequence (mCons (mVar 1) mNil)))) (mNot (mChainB cLe cLe (mC (.int 2)) (mCall (fn1 dLen) (mCons (mVar 1) mNil)) (mC (.int 5))))) (mRet (mC (.str "modulus"))) mNext)
  (mSeq (mIfS (mOr (mNot (mTest (mCallF F_is_digit_row (mCons (mVar 0) (mCons (mCall (fn1 dLen) (mCons (mVar 1) mNil)) (mCons (mVar 1) mNil)))))) (mCmp cNe (mBin dIx (mVar 1) (mUn dNeg (mC (.int 1)))) (mC (.int 1)))) (mRet (mC (.str "modulus"))) mNext)
  (mSeq (mIfS (mCmp cGt (mCallF F_power_of (mCons (mVar 0) (mCons (mBin dSub (mCall (fn1 dLen) (mCons (mVar 1) mNil)) (mC (.int 1))) mNil))) (mC (.int 27))) (mRet (mC (.str "size"))) mNext)
  (mSeq (mIfS (mTest (mCallF F_has_divisor (mCons (mVar 0) (mCons (mVar 1) mNil)))) (mRet (mC (.str "divisor"))) mNext)
  (mRet (mC .non)))))))
def F_field_fault : List D → Rf := mkF 2 B_field_fault
def L_digits_value_1 : M Fl :=
  (mAsg 2 (mBin dAdd (mBin dMul (mVar 2) (mVar 0)) (mVar 3)))
def B_digits_value : M Fl :=
  (mSeq (mAsg 2 (mC (.int 0)))
  (mSeq (mFor (mRev (mCall (fn1 dList) (mCons (mVar 1) mNil))) (gN 3) [3] L_digits_value_1)
  (mRet (mVar 2))))
def F_digits_value : List D → Rf := mkF 4 B_digits_value
def L_sums_of_1 : M Tk :=
  (mBin dMod (mBin dAdd (mVar 6) (mVar 7)) (mVar 0))
def L_sums_of_2 : M Fl :=
  (mDrop (mApp 4 (mCallF F_digits_value (mCons (mVar 0) (mCons (mLc (mWalk wZip (mCons (mVar 3) (mCons (mVar 5) mNil))) (gT 2 (gs1 (gN 6) (gs1 (gN 7) gs0))) [6, 7] mYes L_sums_of_1) mNil)))))
def L_sums_of_3 : M Fl :=
  (mSeq (mAsg 4 (mLst mNil))
  (mSeq (mFor (mIter (mVar 1)) (gN 5) [5] L_sums_of_2)
  (mDrop (mApp 2 (mCall (fn1 dTupleF) (mCons (mVar 4) mNil))))))
def B_sums_of : M Fl :=
  (mSeq (mAsg 2 (mLst mNil))
  (mSeq (mFor (mIter (mVar 1)) (gN 3) [3, 4, 5] L_sums_of_3)
  (mRet (mCall (fn1 dTuple) (mCons (mVar 2) mNil)))))
def F_sums_of : List D → Rf := mkF 8 B_sums_of
def L_products_of_1 : M Fl :=
  (mSeq (mDrop (mApp 7 (mCallF F_digits_value (mCons (mVar 0) (mCons (mVar 8) mNil)))))
  (mAsg 8 (mCallF F_rest_by_monic (mCons (mVar 0) (mCons (mBin dAdd (mLst (mCons (mC (.int 0)) mNil)) (mVar 8)) (mCons (mVar 1) mNil))))))
def L_products_of_2 : M Fl :=
  (mDrop (mApp 10 (mBin dIx (mBin dIx (mVar 3) (mBin dIx (mVar 10) (mBin dSub (mCall (fn1 dLen) (mCons (mVar 10) mNil)) (mVar 13)))) (mVar 12))))
def L_products_of_3 : M Fl :=
  (mSeq (mAsg 12 (mBin dIx (mVar 7) (mVar 11)))
  (mSeq (mAsg 13 (mCall (fn1 dLen) (mCons (mVar 10) mNil)))
  (mFor (mRng (mCons (mBin dMul (mBin dSub (mVar 0) (mC (.int 1))) (mVar 13)) mNil)) (gN 9) [9] L_products_of_2)))
def L_products_of_4 : M Fl :=
  (mSeq (mAsg 7 (mLst mNil))
  (mSeq (mAsg 8 (mCall (fn1 dList) (mCons (mVar 6) mNil)))
  (mSeq (mFor (mRng (mCons (mVar 4) mNil)) (gN 9) [9] L_products_of_1)
  (mSeq (mAsg 10 (mLst (mCons (mC (.int 0)) mNil)))
  (mSeq (mFor (mRng (mCons (mVar 4) mNil)) (gN 11) [9, 11, 12, 13] L_products_of_3)
  (mDrop (mApp 5 (mCall (fn1 dTupleF) (mCons (mVar 10) mNil)))))))))
def B_products_of : M Fl :=
  (mSeq (mAsg 4 (mBin dSub (mCall (fn1 dLen) (mCons (mVar 1) mNil)) (mC (.int 1))))
  (mSeq (mAsg 5 (mLst mNil))
  (mSeq (mFor (mIter (mVar 2)) (gN 6) [6, 7, 8, 9, 10, 11, 12, 13] L_products_of_4)
  (mRet (mCall (fn1 dTuple) (mCons (mVar 5) mNil))))))
def F_products_of : List D → Rf := mkF 14 B_products_of
def L_Field_raised_1 : M Fl :=
  (mAsg 2 (mBin dIx (mBin dIx (mUn (dFld fa_product_rows "product_rows") (mVar 0)) (mVar 2)) (mVar 1)))
def B_Field_raised : M Fl :=
  (mSeq (mAsg 2 (mVar 1))
  (mSeq (mFor (mRng (mCons (mBin dSub (mUn (dFld fa_prime "prime") (mVar 0)) (mC (.int 1))) mNil)) (gN 3) [3] L_Field_raised_1)
  (mRet (mVar 2))))
def F_Field_raised : List D → Rf := mkF 4 B_Field_raised
def t_m_raised_Field : Tab := [(cl_Field, F_Field_raised)]
theorem tf_m_raised_Field_Field : tabF t_m_raised_Field cl_Field = some F_Field_raised := (rfl)
def L_Field___init___1 : M Tk :=
  (mCallF F_base_digits (mCons (mVar 1) (mCons (mUn (dFld fa_degree "degree") (mVar 0)) (mCons (mVar 4) mNil))))
def L_Field___init___2 : M Tk :=
  (mIndex (mVar 5) (mC (.int 0)))
def L_Field___init___3 : M Tk :=
  (mIndex (mVar 5) (mC (.int 1)))
def L_Field___init___4 : M Tk :=
  (mMeth "raised" t_m_raised_Field (mVar 0) (mCons (mVar 4) mNil))
def B_Field___init__ : M Fl :=
  (mSeq (mAsg 3 (mCallF F_field_fault (mCons (mVar 1) (mCons (mVar 2) mNil))))
  (mSeq (mIfS (mCmp cIsNot (mVar 3) (mC .non)) (mRaise cl_BadField ["what"] (mCons (mVar 3) mNil)) mNext)
  (mSeq (mFld 0 fa_prime "prime" (mVar 1))
  (mSeq (mFld 0 fa_modulus "modulus" (mCall (fn1 dTuple) (mCons (mVar 2) mNil)))
  (mSeq (mFld 0 fa_degree "degree" (mBin dSub (mCall (fn1 dLen) (mCons (mUn (dFld fa_modulus "modulus") (mVar 0)) mNil)) (mC (.int 1))))
  (mSeq (mFld 0 fa_size "size" (mCallF F_power_of (mCons (mVar 1) (mCons (mUn (dFld fa_degree "degree") (mVar 0)) mNil))))
  (mSeq (mFld 0 fa_digit_rows "digit_rows" (mCall (fn1 dTuple) (mCons (mLc (mRng (mCons (mUn (dFld fa_size "size") (mVar 0)) mNil)) (gN 4) [4] mYes L_Field___init___1) mNil)))
  (mSeq (mFld 0 fa_sum_rows "sum_rows" (mCallF F_sums_of (mCons (mVar 1) (mCons (mUn (dFld fa_digit_rows "digit_rows") (mVar 0)) mNil))))
  (mSeq (mFld 0 fa_product_rows "product_rows" (mCallF F_products_of (mCons (mVar 1) (mCons (mUn (dFld fa_modulus "modulus") (mVar 0)) (mCons (mUn (dFld fa_digit_rows "digit_rows") (mVar 0)) (mCons (mUn (dFld fa_sum_rows "sum_rows") (mVar 0)) mNil))))))
  (mSeq (mFld 0 fa_negatives "negatives" (mCall (fn1 dTuple) (mCons (mLc (mIter (mUn (dFld fa_sum_rows "sum_rows") (mVar 0))) (gN 5) [5] mYes L_Field___init___2) mNil)))
  (mSeq (mFld 0 fa_inverses "inverses" (mBin dAdd (mTup (mCons (mC (.int 0)) mNil)) (mCall (fn1 dTuple) (mCons (mLc (mIter (mSlice (mUn (dFld fa_product_rows "product_rows") (mVar 0)) (mPart (some (mC (.int 1)))) (mPart none))) (gN 5) [5] mYes L_Field___init___3) mNil))))
  (mFld 0 fa_step_row "step_row" (mCall (fn1 dTuple) (mCons (mLc (mRng (mCons (mUn (dFld fa_size "size") (mVar 0)) mNil)) (gN 4) [4] mYes L_Field___init___4) mNil))))))))))))))
def F_Field___init__ : List D → Rf := mkIO 6 B_Field___init__
def B__law_told : M Fl :=
  (mSeq (mAsg 2 (mC .non))
  (mSeq (mAsg 3 (mC .non))
  (mSeq (mTry subE (mAsg 3 (mVal (mMake cl_Field F_Field___init__ (mCons (mVar 0) (mCons (mVar 1) mNil))))) [(.cl cl_BadField, some 4, (mAsg 2 (mIf (mAnd (mTest (mIsX subXs 4 (mC (.cl cl_RankError)))) (mAnd (mTest (mIsX subXs 4 (mC (.ty "ValueError")))) (mNot (mTest (mIsX subXs 4 (mC (.cl cl_BadThing))))))) (mXf xs_0 4 "what") (mC (.str "class")))))])
  (mSeq (mIfS (mCmp cIsNot (mVar 2) (mC .non)) (mRet (mVar 2)) mNext)
  (mSeq (mIfS (mOr (mNot (mTest (mCall (fn2 (dIsi subIs icIs)) (mCons (mUn (dFld fa_modulus "modulus") (mVar 3)) (mCons (mC (.ty "tuple")) mNil))))) (mOr (mCmp cNe (mUn (dFld fa_modulus "modulus") (mVar 3)) (mCall (fn1 dTuple) (mCons (mVar 1) mNil))) (mCmp cNe (mUn (dFld fa_prime "prime") (mVar 3)) (mVar 0)))) (mRet (mC (.str "attributes"))) mNext)
  (mSeq (mIfS (mOr (mNot (mTest (mCallF F__law_whole (mCons (mUn (dFld fa_degree "degree") (mVar 3)) mNil)))) (mCmp cNe (mUn (dFld fa_degree "degree") (mVar 3)) (mBin dSub (mCall (fn1 dLen) (mCons (mVar 1) mNil)) (mC (.int 1))))) (mRet (mC (.str "degree"))) mNext)
  (mSeq (mIfS (mOr (mNot (mTest (mCallF F__law_whole (mCons (mUn (dFld fa_size "size") (mVar 3)) mNil)))) (mCmp cNe (mUn (dFld fa_size "size") (mVar 3)) (mCallF F__law_power (mCons (mVar 0) (mCons (mBin dSub (mCall (fn1 dLen) (mCons (mVar 1) mNil)) (mC (.int 1))) mNil))))) (mRet (mC (.str "number"))) mNext)
  (mRet (mC .non)))))))))
def F__law_told : List D → Rf := mkF 5 B__law_told
def B_Field___eq__ : M Fl :=
  (mRet (mAndV (mCall (fn2 (dIsi subIs icIs)) (mCons (mVar 1) (mCons (mC (.cl cl_Field)) mNil))) (mAndV (mBin (lift cEq) (mUn (dFld fa_prime "prime") (mVar 0)) (mUn (dFld fa_prime "prime") (mVar 1))) (mBin (lift cEq) (mUn (dFld fa_modulus "modulus") (mVar 0)) (mUn (dFld fa_modulus "modulus") (mVar 1))))))
def F_Field___eq__ : List D → Rf := mkF 2 B_Field___eq__
def t_eq : Tab := [(cl_Field, F_Field___eq__)]
theorem tf_eq_Field : tabF t_eq cl_Field = some F_Field___eq__ := (rfl)
def L_law_1 : M Fl :=
  (mSeq (mAsgG (gT 2 (gs1 (gN 3) (gs1 (gN 4) gs0))) (mCallIO F__law_drawn 1 mNil))
  (mSeq (mAsg 5 (mCallF F__law_due (mCons (mVar 3) (mCons (mVar 4) mNil))))
  (mSeq (mIfS (mCmp cNe (mCallF F__law_told (mCons (mVar 3) (mCons (mVar 4) mNil))) (mVar 5)) (mRet (mC (.bl false))) mNext)
  (mIfS (mAnd (mCmp cIs (mVar 5) (mC .non)) (mNot (mCmp (cEqO t_eq) (mVal (mMake cl_Field F_Field___init__ (mCons (mVar 3) (mCons (mCall (fn1 dList) (mCons (mVar 4) mNil)) mNil)))) (mVal (mMake cl_Field F_Field___init__ (mCons (mVar 3) (mCons (mCall (fn1 dTuple) (mCons (mVar 4) mNil)) mNil))))))) (mRet (mC (.bl false))) mNext))))
def B_law : M Fl :=
  (mSeq (mAsg 1 (mCallF F__law_hand (mCons (mVar 0) mNil)))
  (mSeq (mFor (mRng (mCons (mC (.int 3)) mNil)) (gN 2) [2, 3, 4, 5] L_law_1)
  (mSeq (mAsgG (gT 2 (gs1 (gN 3) (gs1 (gN 4) gs0))) (mCallIO F__law_figure 1 (mCons (mC (.int 4)) mNil)))
  (mSeq (mAsg 6 (mCall (fn1 dList) (mCons (mVar 4) mNil)))
  (mSeq (mAsg 7 (mVal (mMake cl_Field F_Field___init__ (mCons (mVar 3) (mCons (mVar 6) mNil)))))
  (mSeq (mSetI 6 (mC (.int 0)) (mBin dAdd (mBin dIx (mVar 6) (mC (.int 0))) (mC (.int 1))))
  (mSeq (mDrop (mApp 6 (mC (.int 1))))
  (mSeq (mIfS (mOr (mCmp cNe (mUn (dFld fa_modulus "modulus") (mVar 7)) (mVar 4)) (mCmp cNe (mUn (dFld fa_size "size") (mVar 7)) (mCallF F__law_power (mCons (mVar 3) (mCons (mBin dSub (mCall (fn1 dLen) (mCons (mVar 4) mNil)) (mC (.int 1))) mNil))))) (mRet (mC (.bl false))) mNext)
  (mSeq (mAsgG (gT 2 (gs1 (gN 8) (gs1 (gN 9) gs0))) (mCallIO F__law_figure 1 (mCons (mC (.int 4)) mNil)))
  (mSeq (mAsg 10 (mAndV (mBin (lift cEq) (mVar 3) (mVar 8)) (mBin (lift cEq) (mVar 4) (mVar 9))))
  (mSeq (mIfS (mOr (mCmp cNe (mBin (lift (cEqO t_eq)) (mVar 7) (mVal (mMake cl_Field F_Field___init__ (mCons (mVar 8) (mCons (mVar 9) mNil))))) (mVar 10)) (mNot (mCmp (cEqO t_eq) (mVar 7) (mVal (mMake cl_Field F_Field___init__ (mCons (mVar 3) (mCons (mVar 4) mNil))))))) (mRet (mC (.bl false))) mNext)
  (mRet (mBin (lift cEq) (mCallF F__law_told (mCons (mBin dSub (mC (.int 5)) (mVar 3)) (mCons (mVar 9) mNil))) (mCallF F__law_due (mCons (mBin dSub (mC (.int 5)) (mVar 3)) (mCons (mVar 9) mNil))))))))))))))))
def F_law : List D → Rf := mkF 11 B_law
structure Blt (mg : Str → Option Value) : Prop where
  b_ValueError : mg "ValueError" = none
  b_abs : mg "abs" = none
  b_all : mg "all" = none
  b_any : mg "any" = none
  b_bool : mg "bool" = none
  b_int : mg "int" = none
  b_isinstance : mg "isinstance" = none
  b_len : mg "len" = none
  b_list : mg "list" = none
  b_range : mg "range" = none
  b_reversed : mg "reversed" = none
  b_tuple : mg "tuple" = none
  b_zip : mg "zip" = none
section
variable {P : Program} {w : World} {K : PySem.W.Frag} {mg : Str → Option Value} {base : Heap} {cm : Nat → Addr} {f : Addr} {fd : FuncData}
structure Exs (P : Program) (w : World) (K : PySem.W.Frag) (mg : Str → Option Value) (base : Heap) (cm : Nat → Addr) : Prop where
  S : SubX K cm subE
  m_Field : mg "Field" = some (.ref (cm cl_Field))
  m_BadField : mg "BadField" = some (.ref (cm cl_BadField))
  m_RankError : mg "RankError" = some (.ref (cm cl_RankError))
  m_BadThing : mg "BadThing" = some (.ref (cm cl_BadThing))
  e_BadField : EC P w K mg base cm "BadField" cl_BadField 1 ["what"]
  t_0 : ∀ c ∈ xs_0, XfC K (cm c) ∧ PySem.W.findIn K (.ref (cm c)) "what" = some none
  f_modulus : FA K cm "modulus" fa_modulus
  f_size : FA K cm "size" fa_size
  f_prime : FA K cm "prime" fa_prime
  f_degree : FA K cm "degree" fa_degree
  f_digit_rows : FA K cm "digit_rows" fa_digit_rows
  f_sum_rows : FA K cm "sum_rows" fa_sum_rows
  f_product_rows : FA K cm "product_rows" fa_product_rows
  f_negatives : FA K cm "negatives" fa_negatives
  f_inverses : FA K cm "inverses" fa_inverses
  f_step_row : FA K cm "step_row" fa_step_row
  si : Sub K cm subIs icIs
  sx : SubK K cm subXs
theorem okI_BadField {C R fI : Addr} (BR : RB K R) (hR : mg "RankError" = some (.ref R)) (E : EcF K C fI ["what"]) (F : Fun K "__init__" "BadField.__init__" sI_BadField f fd) : FnOk P w K mg base (L2.CX P w) 1 f fd ["self", "what"] (spX C ["what"]) :=
  have sc := scI_BadField
  init1_ok (k := 0) E.o (E.n _ (by simp)) F sc rfl rfl fun cdv A outer s H EE => (pss_cons (ps_expr (pe_rkinit BR hR (pa_cons (pv 0) (pa_cons pe_str pa_nil))) rfl) (pss_one (ps_ost (pv 0) (pv 1))))
theorem ok__law_hand (B : Blt mg) (Z : Exs P w K mg base cm)  (F : Fun K "_law_hand" "_law_hand" s__law_hand f fd) : FnOk P w K mg base (L2.CX P w) 1 f fd ["_law_script"] (spF ⟨K, cm⟩ 1 F__law_hand) :=
  have sc := sc__law_hand
  fn_ok (body := B__law_hand) (N := N__law_hand) (ps := ["_law_script"]) F sc (by decide) fun cdv A outer s H E hr =>
  (pssx_cons (psx_set (i := 1) sc.nd (px_add (px_len B.b_len (pas_cons (px_var (pv 0)) pas_nil)) px_int))
  (pssx_cons (psx_set (i := 2) sc.nd (px_lst pas_nil))
  (pssx_cons (psx_for [3] hpF rfl (pix_seq (px_var (pv 0))) (pgx_name (i := 3) sc.nd) (pssx_cons (psx_set (i := 1) sc.nd (px_mod (px_int1 B.b_int (pas_cons (px_add (px_mul (px_var (pv 1)) px_int) (px_int1 B.b_int (pas_cons (px_var (pv 3)) pas_nil))) pas_nil)) px_int))
  (pssx_one (psx_expr (px_app (k := 2) (pv 2) (px_abs B.b_abs (pas_cons (px_int1 B.b_int (pas_cons (px_var (pv 3)) pas_nil)) pas_nil)) (pe_bm PySem.F.plainAttrs_list PySem.F.slot_list_append PySem.F.type_list_append mt_append (pv 2) (pa_cons (PX.pe (px_abs B.b_abs (pas_cons (px_int1 B.b_int (pas_cons (px_var (pv 3)) pas_nil)) pas_nil))) pa_nil)))))))
  (pssx_one (psx_ret (px_lst (pas_cons (px_var (pv 2)) (pas_cons px_int (pas_cons px_int (pas_cons (px_var (pv 1)) pas_nil))))))))))
theorem ok__law_mixed (B : Blt mg) (Z : Exs P w K mg base cm)  (F : Fun K "_law_mixed" "_law_mixed" s__law_mixed f fd) : FnOk P w K mg base (L2.CX P w) 1 f fd ["_law_number", "_law_turn"] (spF ⟨K, cm⟩ 2 F__law_mixed) :=
  have sc := sc__law_mixed
  fn_ok (body := B__law_mixed) (N := N__law_mixed) (ps := ["_law_number", "_law_turn"]) F sc (by decide) fun cdv A outer s H E hr =>
  (pssx_cons (psx_set (i := 2) sc.nd (px_mod (px_int1 B.b_int (pas_cons (px_add (px_add (px_mul (px_var (pv 0)) px_int) (px_mul (px_var (pv 1)) px_int)) px_int) pas_nil)) px_int))
  (pssx_cons (psx_set (i := 3) sc.nd (px_mod (px_int1 B.b_int (pas_cons (px_add (px_add (px_mul (px_var (pv 2)) (px_var (pv 2))) (px_mul (px_var (pv 1)) px_int)) (px_div (px_var (pv 2)) px_int)) pas_nil)) px_int))
  (pssx_one (psx_ret (px_div (px_int1 B.b_int (pas_cons (px_mod (px_int1 B.b_int (pas_cons (px_add (px_mul (px_var (pv 3)) px_int) (px_div (px_var (pv 2)) px_int)) pas_nil)) px_int) pas_nil)) px_int)))))
theorem ok__law_take (B : Blt mg) (Z : Exs P w K mg base cm) (c__law_mixed : CF P w K mg base cm "_law_mixed" 1 ["_law_number", "_law_turn"] F__law_mixed) (F : Fun K "_law_take" "_law_take" s__law_take f fd) : FnOk P w K mg base (L2.CX P w) 2 f fd ["_law_hand_here", "_law_many"] (spIO ⟨K, cm⟩ 2 F__law_take) :=
  have sc := sc__law_take
  fnIO_ok (body := B__law_take) (N := N__law_take) (ps := ["_law_hand_here", "_law_many"]) F sc (by decide) fun cdv A outer s H E a hr =>
  (pssx_cons (psx_if (PBW.pb (pb_and (pb_eq hr (px_ix (px_var (pv 0)) px_int) px_int) (pb_and1 (pb_lt (px_ix (px_var (pv 0)) px_int) (px_len B.b_len (pas_cons (px_ix (px_var (pv 0)) px_int) pas_nil)))))) (pssx_cons (psx_set (i := 2) sc.nd (px_ix (px_ix (px_var (pv 0)) px_int) (px_ix (px_var (pv 0)) px_int)))
  (pssx_cons (psx_setI (k := 0) (px_add (px_ix (px_var (pv 0)) px_int) px_int) px_int (ps_asg (PX.pe (px_add (px_ix (px_var (pv 0)) px_int) px_int)) (pg_sub (pv 0) (PX.pe px_int) set_list)))
  (pssx_cons (psx_if (pb_lt (px_var (pv 2)) (px_pow px_int px_int)) (pssx_one (psx_ret (px_mod (px_int1 B.b_int (pas_cons (px_callC c__law_mixed hr tkF (pas_cons (px_mod (px_int1 B.b_int (pas_cons (px_var (pv 2)) pas_nil)) px_int) (pas_cons (px_ix (px_var (pv 0)) px_int) pas_nil))) pas_nil)) (px_var (pv 1))))) pssx_nil)
  (pssx_one (psx_setI (k := 0) (px_var (pv 2)) px_int (ps_asg (PX.pe (px_var (pv 2))) (pg_sub (pv 0) (PX.pe px_int) set_list))))))) pssx_nil)
  (pssx_cons (psx_if (pb_gt (px_ix (px_var (pv 0)) px_int) px_int) (pssx_cons (psx_set (i := 3) sc.nd (px_ix (px_var (pv 0)) px_int))
  (pssx_cons (psx_setI (k := 0) (px_div (px_int1 B.b_int (pas_cons (px_var (pv 3)) pas_nil)) (px_var (pv 1))) px_int (ps_asg (PX.pe (px_div (px_int1 B.b_int (pas_cons (px_var (pv 3)) pas_nil)) (px_var (pv 1)))) (pg_sub (pv 0) (PX.pe px_int) set_list)))
  (pssx_one (psx_ret (px_mod (px_int1 B.b_int (pas_cons (px_var (pv 3)) pas_nil)) (px_var (pv 1))))))) pssx_nil)
  (pssx_cons (psx_setI (k := 0) (px_mod (px_int1 B.b_int (pas_cons (px_add (px_ix (px_var (pv 0)) px_int) px_int) pas_nil)) px_int) px_int (ps_asg (PX.pe (px_mod (px_int1 B.b_int (pas_cons (px_add (px_ix (px_var (pv 0)) px_int) px_int) pas_nil)) px_int)) (pg_sub (pv 0) (PX.pe px_int) set_list)))
  (pssx_one (psx_ret (px_mod (px_int1 B.b_int (pas_cons (px_callC c__law_mixed hr tkF (pas_cons (px_ix (px_var (pv 0)) px_int) (pas_cons (px_ix (px_var (pv 0)) px_int) pas_nil))) pas_nil)) (px_var (pv 1))))))))
theorem ok__law_moduli (B : Blt mg) (Z : Exs P w K mg base cm)  (F : Fun K "_law_moduli" "_law_moduli" s__law_moduli f fd) : FnOk P w K mg base (L2.CX P w) 1 f fd ["_law_prime", "_law_degree"] (spF ⟨K, cm⟩ 2 F__law_moduli) :=
  have sc := sc__law_moduli
  fn_ok (body := B__law_moduli) (N := N__law_moduli) (ps := ["_law_prime", "_law_degree"]) F sc (by decide) fun cdv A outer s H E hr =>
  (pssx_cons (psx_if (pb_eq hr (px_var (pv 0)) px_int) (pssx_cons (psx_if (pb_eq hr (px_var (pv 1)) px_int) (pssx_one (psx_ret (px_lst (pas_cons (px_tup (pas_cons px_int (pas_cons px_int pas_nil))) (pas_cons (px_tup (pas_cons px_int (pas_cons px_int pas_nil))) pas_nil))))) pssx_nil)
  (pssx_cons (psx_if (pb_eq hr (px_var (pv 1)) px_int) (pssx_one (psx_ret (px_lst (pas_cons (px_tup (pas_cons px_int (pas_cons px_int (pas_cons px_int pas_nil)))) pas_nil)))) pssx_nil)
  (pssx_cons (psx_if (pb_eq hr (px_var (pv 1)) px_int) (pssx_one (psx_ret (px_lst (pas_cons (px_tup (pas_cons px_int (pas_cons px_int (pas_cons px_int (pas_cons px_int pas_nil))))) (pas_cons (px_tup (pas_cons px_int (pas_cons px_int (pas_cons px_int (pas_cons px_int pas_nil))))) pas_nil))))) pssx_nil)
  (pssx_one (psx_ret (px_lst (pas_cons (px_tup (pas_cons px_int (pas_cons px_int (pas_cons px_int (pas_cons px_int (pas_cons px_int pas_nil)))))) (pas_cons (px_tup (pas_cons px_int (pas_cons px_int (pas_cons px_int (pas_cons px_int (pas_cons px_int pas_nil)))))) (pas_cons (px_tup (pas_cons px_int (pas_cons px_int (pas_cons px_int (pas_cons px_int (pas_cons px_int pas_nil)))))) pas_nil))))))))) pssx_nil)
  (pssx_cons (psx_if (pb_eq hr (px_var (pv 1)) px_int) (pssx_one (psx_ret (px_lst (pas_cons (px_tup (pas_cons px_int (pas_cons px_int pas_nil))) (pas_cons (px_tup (pas_cons px_int (pas_cons px_int pas_nil))) (pas_cons (px_tup (pas_cons px_int (pas_cons px_int pas_nil))) pas_nil)))))) pssx_nil)
  (pssx_cons (psx_if (pb_eq hr (px_var (pv 1)) px_int) (pssx_one (psx_ret (px_lst (pas_cons (px_tup (pas_cons px_int (pas_cons px_int (pas_cons px_int pas_nil)))) (pas_cons (px_tup (pas_cons px_int (pas_cons px_int (pas_cons px_int pas_nil)))) (pas_cons (px_tup (pas_cons px_int (pas_cons px_int (pas_cons px_int pas_nil)))) pas_nil)))))) pssx_nil)
  (pssx_one (psx_ret (px_lst (pas_cons (px_tup (pas_cons px_int (pas_cons px_int (pas_cons px_int (pas_cons px_int pas_nil))))) (pas_cons (px_tup (pas_cons px_int (pas_cons px_int (pas_cons px_int (pas_cons px_int pas_nil))))) (pas_cons (px_tup (pas_cons px_int (pas_cons px_int (pas_cons px_int (pas_cons px_int pas_nil))))) (pas_cons (px_tup (pas_cons px_int (pas_cons px_int (pas_cons px_int (pas_cons px_int pas_nil))))) (pas_cons (px_tup (pas_cons px_int (pas_cons px_int (pas_cons px_int (pas_cons px_int pas_nil))))) (pas_cons (px_tup (pas_cons px_int (pas_cons px_int (pas_cons px_int (pas_cons px_int pas_nil))))) (pas_cons (px_tup (pas_cons px_int (pas_cons px_int (pas_cons px_int (pas_cons px_int pas_nil))))) (pas_cons (px_tup (pas_cons px_int (pas_cons px_int (pas_cons px_int (pas_cons px_int pas_nil))))) pas_nil))))))))))))))
theorem ok__law_figure (B : Blt mg) (Z : Exs P w K mg base cm) (c__law_take : CIO P w K mg base cm "_law_take" 2 ["_law_hand_here", "_law_many"] F__law_take) (c__law_moduli : CF P w K mg base cm "_law_moduli" 1 ["_law_prime", "_law_degree"] F__law_moduli) (F : Fun K "_law_figure" "_law_figure" s__law_figure f fd) : FnOk P w K mg base (L2.CX P w) 3 f fd ["_law_hand_here", "_law_most"] (spIO ⟨K, cm⟩ 2 F__law_figure) :=
  have sc := sc__law_figure
  fnIO_ok (body := B__law_figure) (N := N__law_figure) (ps := ["_law_hand_here", "_law_most"]) F sc (by decide) fun cdv A outer s H E a hr =>
  (pssx_cons (psx_set (i := 2) sc.nd (px_lst (pas_cons (px_tup (pas_cons px_int (pas_cons px_int pas_nil))) (pas_cons (px_tup (pas_cons px_int (pas_cons px_int pas_nil))) (pas_cons (px_tup (pas_cons px_int (pas_cons px_int pas_nil))) (pas_cons (px_tup (pas_cons px_int (pas_cons px_int pas_nil))) (pas_cons (px_tup (pas_cons px_int (pas_cons px_int pas_nil))) (pas_cons (px_tup (pas_cons px_int (pas_cons px_int pas_nil))) (pas_cons (px_tup (pas_cons px_int (pas_cons px_int pas_nil))) (pas_cons (px_tup (pas_cons px_int (pas_cons px_int pas_nil))) (pas_cons (px_tup (pas_cons px_int (pas_cons px_int pas_nil))) (pas_cons (px_tup (pas_cons px_int (pas_cons px_int pas_nil))) (pas_cons (px_tup (pas_cons px_int (pas_cons px_int pas_nil))) (pas_cons (px_tup (pas_cons px_int (pas_cons px_int pas_nil))) (pas_cons (px_tup (pas_cons px_int (pas_cons px_int pas_nil))) (pas_cons (px_tup (pas_cons px_int (pas_cons px_int pas_nil))) (pas_cons (px_tup (pas_cons px_int (pas_cons px_int pas_nil))) (pas_cons (px_tup (pas_cons px_int (pas_cons px_int pas_nil))) pas_nil))))))))))))))))))
  (pssx_cons (psx_setLc (i := 3) rfl sc.nd (pix_seq (px_var (pv 2))) (blkOk_by (own := [("_law_one", 7)]) (by first | (show blkC N__law_figure (defScope s__law_figure) _ _ = true; decide +kernel) | rfl)) (fun _ _ _ _ _ => (pgx_name (i := 7) sc.nd)) (fun _ _ _ _ _ => (pbs_one (pb_le (px_ix (px_var (pv 7)) px_int) (px_var (pv 1))))) (fun _ _ _ _ _ => (px_var (pv 7))))
  (pssx_cons (psx_asg (px_ix (px_var (pv 3)) (px_callI 0 c__law_take hr tkF (pv 0) (pas_cons (px_len B.b_len (pas_cons (px_var (pv 3)) pas_nil)) pas_nil))) (pgx_tup rfl (pgsx_cons (pgx_name (i := 4) sc.nd) (pgsx_cons (pgx_name (i := 5) sc.nd) pgsx_nil))))
  (pssx_cons (psx_set (i := 6) sc.nd (px_callC c__law_moduli hr tkF (pas_cons (px_var (pv 4)) (pas_cons (px_var (pv 5)) pas_nil))))
  (pssx_one (psx_ret (px_tup (pas_cons (px_var (pv 4)) (pas_cons (px_ix (px_var (pv 6)) (px_callI 0 c__law_take hr tkF (pv 0) (pas_cons (px_len B.b_len (pas_cons (px_var (pv 6)) pas_nil)) pas_nil))) pas_nil)))))))))
theorem ok__law_spoiled (B : Blt mg) (Z : Exs P w K mg base cm) (c__law_take : CIO P w K mg base cm "_law_take" 2 ["_law_hand_here", "_law_many"] F__law_take) (F : Fun K "_law_spoiled" "_law_spoiled" s__law_spoiled f fd) : FnOk P w K mg base (L2.CX P w) 3 f fd ["_law_hand_here", "_law_prime", "_law_modulus"] (spIO ⟨K, cm⟩ 3 F__law_spoiled) :=
  have sc := sc__law_spoiled
  fnIO_ok (body := B__law_spoiled) (N := N__law_spoiled) (ps := ["_law_hand_here", "_law_prime", "_law_modulus"]) F sc (by decide) fun cdv A outer s H E a hr =>
  (pssx_cons (psx_set (i := 3) sc.nd (px_list B.b_list (pas_cons (px_var (pv 2)) pas_nil)))
  (pssx_cons (psx_set (i := 4) sc.nd (px_callI 0 c__law_take hr tkF (pv 0) (pas_cons px_int pas_nil)))
  (pssx_cons (psx_if (pb_eq hr (px_var (pv 4)) px_int) (pssx_cons (psx_set (i := 5) sc.nd (px_tup (pas_cons px_bl (pas_cons px_int (pas_cons (px_neg px_int) (pas_cons px_int (pas_cons px_int (pas_cons px_non (pas_cons px_str (pas_cons (px_tup (pas_cons px_int pas_nil)) (pas_cons px_int (pas_cons (px_neg px_int) pas_nil))))))))))))
  (pssx_one (psx_ret (px_tup (pas_cons (px_ix (px_var (pv 5)) (px_callI 0 c__law_take hr tkF (pv 0) (pas_cons px_int pas_nil))) (pas_cons (px_var (pv 3)) pas_nil)))))) pssx_nil)
  (pssx_cons (psx_if (pb_eq hr (px_var (pv 4)) px_int) (pssx_cons (psx_set (i := 5) sc.nd (px_tup (pas_cons px_non (pas_cons px_str (pas_cons px_int (pas_cons px_newD (pas_cons px_bl pas_nil)))))))
  (pssx_one (psx_ret (px_tup (pas_cons (px_var (pv 1)) (pas_cons (px_ix (px_var (pv 5)) (px_callI 0 c__law_take hr tkF (pv 0) (pas_cons px_int pas_nil))) pas_nil)))))) pssx_nil)
  (pssx_cons (psx_set (i := 6) sc.nd (px_callI 0 c__law_take hr tkF (pv 0) (pas_cons (px_len B.b_len (pas_cons (px_var (pv 3)) pas_nil)) pas_nil)))
  (pssx_cons (psx_set (i := 5) sc.nd (px_tup (pas_cons (px_var (pv 1)) (pas_cons (px_neg px_int) (pas_cons px_bl (pas_cons px_non (pas_cons px_str (pas_cons (px_tup (pas_cons px_int pas_nil)) (pas_cons (px_pow px_int px_int) (pas_cons px_bl pas_nil))))))))))
  (pssx_cons (psx_setI (k := 3) (px_ix (px_var (pv 5)) (px_callI 0 c__law_take hr tkF (pv 0) (pas_cons px_int pas_nil))) (px_var (pv 6)) (ps_asg (PX.pe (px_ix (px_var (pv 5)) (px_callI 0 c__law_take hr tkF (pv 0) (pas_cons px_int pas_nil)))) (pg_sub (pv 3) (PX.pe (px_var (pv 6))) set_list)))
  (pssx_cons (psx_if (pb_eq hr (px_var (pv 4)) px_int) (pssx_cons (psx_set (i := 5) sc.nd (px_tup (pas_cons px_bl (pas_cons px_int (pas_cons px_str pas_nil)))))
  (pssx_one (psx_ret (px_tup (pas_cons (px_ix (px_var (pv 5)) (px_callI 0 c__law_take hr tkF (pv 0) (pas_cons px_int pas_nil))) (pas_cons (px_var (pv 3)) pas_nil)))))) pssx_nil)
  (pssx_one (psx_ret (px_tup (pas_cons (px_var (pv 1)) (pas_cons (px_if (pb_eq hr (px_var (pv 4)) px_int) (px_tuple B.b_tuple (pas_cons (px_var (pv 3)) pas_nil)) (px_var (pv 3))) pas_nil)))))))))))))
theorem ok__law_free (B : Blt mg) (Z : Exs P w K mg base cm) (c__law_take : CIO P w K mg base cm "_law_take" 2 ["_law_hand_here", "_law_many"] F__law_take) (F : Fun K "_law_free" "_law_free" s__law_free f fd) : FnOk P w K mg base (L2.CX P w) 3 f fd ["_law_hand_here", "_law_prime"] (spIO ⟨K, cm⟩ 2 F__law_free) :=
  have sc := sc__law_free
  fnIO_ok (body := B__law_free) (N := N__law_free) (ps := ["_law_hand_here", "_law_prime"]) F sc (by decide) fun cdv A outer s H E a hr =>
  (pssx_cons (psx_set (i := 2) sc.nd (px_add px_int (px_callI 0 c__law_take hr tkF (pv 0) (pas_cons px_int pas_nil))))
  (pssx_cons (psx_if (pb_eq hr (px_callI 0 c__law_take hr tkF (pv 0) (pas_cons px_int pas_nil)) px_int) (pssx_one (psx_set (i := 2) sc.nd (px_ix (px_tup (pas_cons px_int (pas_cons px_int pas_nil))) (px_callI 0 c__law_take hr tkF (pv 0) (pas_cons px_int pas_nil))))) pssx_nil)
  (pssx_cons (psx_setLc (i := 3) rfl sc.nd (pix_rng1 B.b_range (pas_cons (px_var (pv 2)) pas_nil) (many_cons many_nil)) (blkOk_by (own := [("_law_k", 4)]) (by first | (show blkC N__law_free (defScope s__law_free) _ _ = true; decide +kernel) | rfl)) (fun _ _ _ _ _ => (pgx_name (i := 4) sc.nd)) (fun _ _ _ _ _ => pbs_nil) (fun _ _ _ _ _ => (px_callI 0 c__law_take hr takes0 (pv 0) (pas_cons (px_var (pv 1)) pas_nil))))
  (pssx_cons (psx_if (pb_gt (px_callI 0 c__law_take hr tkF (pv 0) (pas_cons px_int pas_nil)) px_int) (pssx_one (psx_setI (k := 3) px_int (px_neg px_int) (ps_asg (PX.pe px_int) (pg_sub (pv 3) (PX.pe (px_neg px_int)) set_list)))) pssx_nil)
  (pssx_one (psx_ret (px_var (pv 3))))))))
theorem ok__law_drawn (B : Blt mg) (Z : Exs P w K mg base cm) (c__law_figure : CIO P w K mg base cm "_law_figure" 3 ["_law_hand_here", "_law_most"] F__law_figure) (c__law_take : CIO P w K mg base cm "_law_take" 2 ["_law_hand_here", "_law_many"] F__law_take) (c__law_spoiled : CIO P w K mg base cm "_law_spoiled" 3 ["_law_hand_here", "_law_prime", "_law_modulus"] F__law_spoiled) (c__law_free : CIO P w K mg base cm "_law_free" 3 ["_law_hand_here", "_law_prime"] F__law_free) (F : Fun K "_law_drawn" "_law_drawn" s__law_drawn f fd) : FnOk P w K mg base (L2.CX P w) 4 f fd ["_law_hand_here"] (spIO ⟨K, cm⟩ 1 F__law_drawn) :=
  have sc := sc__law_drawn
  fnIO_ok (body := B__law_drawn) (N := N__law_drawn) (ps := ["_law_hand_here"]) F sc (by decide) fun cdv A outer s H E a hr =>
  (pssx_cons (psx_asg (px_callI 0 c__law_figure hr tkF (pv 0) (pas_cons px_int pas_nil)) (pgx_tup rfl (pgsx_cons (pgx_name (i := 1) sc.nd) (pgsx_cons (pgx_name (i := 2) sc.nd) pgsx_nil))))
  (pssx_cons (psx_set (i := 3) sc.nd (px_callI 0 c__law_take hr tkF (pv 0) (pas_cons px_int pas_nil)))
  (pssx_cons (psx_if (pb_eq hr (px_var (pv 3)) px_int) (pssx_one (psx_ret (px_tup (pas_cons (px_var (pv 1)) (pas_cons (px_tuple B.b_tuple (pas_cons (px_var (pv 2)) pas_nil)) pas_nil))))) pssx_nil)
  (pssx_cons (psx_if (pb_eq hr (px_var (pv 3)) px_int) (pssx_one (psx_ret (px_callI 0 c__law_spoiled hr tkF (pv 0) (pas_cons (px_var (pv 1)) (pas_cons (px_var (pv 2)) pas_nil))))) pssx_nil)
  (pssx_cons (psx_set (i := 1) sc.nd (px_add px_int (px_callI 0 c__law_take hr tkF (pv 0) (pas_cons px_int pas_nil))))
  (pssx_one (psx_ret (px_tup (pas_cons (px_var (pv 1)) (pas_cons (px_callI 0 c__law_free hr tkF (pv 0) (pas_cons (px_var (pv 1)) pas_nil)) pas_nil))))))))))
theorem ok__law_whole (B : Blt mg) (Z : Exs P w K mg base cm)  (F : Fun K "_law_whole" "_law_whole" s__law_whole f fd) : FnOk P w K mg base (L2.CX P w) 1 f fd ["_law_thing"] (spF ⟨K, cm⟩ 1 F__law_whole) :=
  have sc := sc__law_whole
  fn_ok (body := B__law_whole) (N := N__law_whole) (ps := ["_law_thing"]) F sc (by decide) fun cdv A outer s H E hr =>
  (pssx_one (psx_ret (px_and (px_isi Z.si B.b_isinstance (pas_cons (px_var (pv 0)) (pas_cons (px_ty B.b_int) pas_nil))) (px_one (px_not (px_isi Z.si B.b_isinstance (pas_cons (px_var (pv 0)) (pas_cons (px_ty B.b_bool) pas_nil))))))))
theorem ok__law_power (B : Blt mg) (Z : Exs P w K mg base cm)  (F : Fun K "_law_power" "_law_power" s__law_power f fd) : FnOk P w K mg base (L2.CX P w) 1 f fd ["_law_base", "_law_exponent"] (spF ⟨K, cm⟩ 2 F__law_power) :=
  have sc := sc__law_power
  fn_ok (body := B__law_power) (N := N__law_power) (ps := ["_law_base", "_law_exponent"]) F sc (by decide) fun cdv A outer s H E hr =>
  (pssx_cons (psx_set (i := 2) sc.nd px_int)
  (pssx_cons (psx_for [3] hpF rfl (pix_rng1 B.b_range (pas_cons (px_var (pv 1)) pas_nil) (many_cons many_nil)) (pgx_name (i := 3) sc.nd) (pssx_one (psx_set (i := 2) sc.nd (px_mul (px_var (pv 2)) (px_var (pv 0))))))
  (pssx_one (psx_ret (px_var (pv 2))))))
theorem ok__law_digits (B : Blt mg) (Z : Exs P w K mg base cm)  (F : Fun K "_law_digits" "_law_digits" s__law_digits f fd) : FnOk P w K mg base (L2.CX P w) 1 f fd ["_law_q", "_law_many", "_law_number"] (spF ⟨K, cm⟩ 3 F__law_digits) :=
  have sc := sc__law_digits
  fn_ok (body := B__law_digits) (N := N__law_digits) (ps := ["_law_q", "_law_many", "_law_number"]) F sc (by decide) fun cdv A outer s H E hr =>
  (pssx_cons (psx_set (i := 3) sc.nd (px_lst pas_nil))
  (pssx_cons (psx_for [4] hpF rfl (pix_rng1 B.b_range (pas_cons (px_var (pv 1)) pas_nil) (many_cons many_nil)) (pgx_name (i := 4) sc.nd) (pssx_cons (psx_expr (px_app (k := 3) (pv 3) (px_mod (px_int1 B.b_int (pas_cons (px_var (pv 2)) pas_nil)) (px_var (pv 0))) (pe_bm PySem.F.plainAttrs_list PySem.F.slot_list_append PySem.F.type_list_append mt_append (pv 3) (pa_cons (PX.pe (px_mod (px_int1 B.b_int (pas_cons (px_var (pv 2)) pas_nil)) (px_var (pv 0)))) pa_nil))))
  (pssx_one (psx_set (i := 2) sc.nd (px_div (px_int1 B.b_int (pas_cons (px_var (pv 2)) pas_nil)) (px_var (pv 0)))))))
  (pssx_one (psx_ret (px_var (pv 3))))))
theorem ok__law_product (B : Blt mg) (Z : Exs P w K mg base cm)  (F : Fun K "_law_product" "_law_product" s__law_product f fd) : FnOk P w K mg base (L2.CX P w) 1 f fd ["_law_q", "_law_one", "_law_other"] (spF ⟨K, cm⟩ 3 F__law_product) :=
  have sc := sc__law_product
  fn_ok (body := B__law_product) (N := N__law_product) (ps := ["_law_q", "_law_one", "_law_other"]) F sc (by decide) fun cdv A outer s H E hr =>
  (pssx_cons (psx_set (i := 3) sc.nd (px_mul (px_lst (pas_cons px_int pas_nil)) (px_sub (px_add (px_len B.b_len (pas_cons (px_var (pv 1)) pas_nil)) (px_len B.b_len (pas_cons (px_var (pv 2)) pas_nil))) px_int)))
  (pssx_cons (psx_for [4, 5] hpF rfl (pix_rng1 B.b_range (pas_cons (px_len B.b_len (pas_cons (px_var (pv 1)) pas_nil)) pas_nil) (many_cons many_nil)) (pgx_name (i := 4) sc.nd) (pssx_one (psx_for [5] hpF rfl (pix_rng1 B.b_range (pas_cons (px_len B.b_len (pas_cons (px_var (pv 2)) pas_nil)) pas_nil) (many_cons many_nil)) (pgx_name (i := 5) sc.nd) (pssx_one (psx_setI (k := 3) (px_mod (px_int1 B.b_int (pas_cons (px_add (px_ix (px_var (pv 3)) (px_add (px_var (pv 4)) (px_var (pv 5)))) (px_mul (px_ix (px_var (pv 1)) (px_var (pv 4))) (px_ix (px_var (pv 2)) (px_var (pv 5))))) pas_nil)) (px_var (pv 0))) (px_add (px_var (pv 4)) (px_var (pv 5))) (ps_asg (PX.pe (px_mod (px_int1 B.b_int (pas_cons (px_add (px_ix (px_var (pv 3)) (px_add (px_var (pv 4)) (px_var (pv 5)))) (px_mul (px_ix (px_var (pv 1)) (px_var (pv 4))) (px_ix (px_var (pv 2)) (px_var (pv 5))))) pas_nil)) (px_var (pv 0)))) (pg_sub (pv 3) (PX.pe (px_add (px_var (pv 4)) (px_var (pv 5)))) set_list)))))))
  (pssx_one (psx_ret (px_var (pv 3))))))
theorem ok__law_parted (B : Blt mg) (Z : Exs P w K mg base cm) (c__law_power : CF P w K mg base cm "_law_power" 1 ["_law_base", "_law_exponent"] F__law_power) (c__law_digits : CF P w K mg base cm "_law_digits" 1 ["_law_q", "_law_many", "_law_number"] F__law_digits) (c__law_product : CF P w K mg base cm "_law_product" 1 ["_law_q", "_law_one", "_law_other"] F__law_product) (F : Fun K "_law_parted" "_law_parted" s__law_parted f fd) : FnOk P w K mg base (L2.CX P w) 2 f fd ["_law_q", "_law_modulus"] (spF ⟨K, cm⟩ 2 F__law_parted) :=
  have sc := sc__law_parted
  fn_ok (body := B__law_parted) (N := N__law_parted) (ps := ["_law_q", "_law_modulus"]) F sc (by decide) fun cdv A outer s H E hr =>
  (pssx_cons (psx_set (i := 2) sc.nd (px_sub (px_len B.b_len (pas_cons (px_var (pv 1)) pas_nil)) px_int))
  (pssx_cons (psx_for [3, 4, 5, 6] hpF rfl (pix_rng2 B.b_range (pas_cons px_int (pas_cons (px_add (px_div (px_var (pv 2)) px_int) px_int) pas_nil)) (many_cons (many_cons many_nil))) (pgx_name (i := 3) sc.nd) (pssx_one (psx_for [4, 5, 6] hpF rfl (pix_rng1 B.b_range (pas_cons (px_callC c__law_power hr tkF (pas_cons (px_var (pv 0)) (pas_cons (px_var (pv 3)) pas_nil))) pas_nil) (many_cons many_nil)) (pgx_name (i := 4) sc.nd) (pssx_cons (psx_set (i := 5) sc.nd (px_add (px_callC c__law_digits hr tkF (pas_cons (px_var (pv 0)) (pas_cons (px_var (pv 3)) (pas_cons (px_var (pv 4)) pas_nil)))) (px_lst (pas_cons px_int pas_nil))))
  (pssx_one (psx_for [6] hpF rfl (pix_rng1 B.b_range (pas_cons (px_callC c__law_power hr tkF (pas_cons (px_var (pv 0)) (pas_cons (px_sub (px_var (pv 2)) (px_var (pv 3))) pas_nil))) pas_nil) (many_cons many_nil)) (pgx_name (i := 6) sc.nd) (pssx_one (psx_if (pb_eq hr (px_callC c__law_product hr tkF (pas_cons (px_var (pv 0)) (pas_cons (px_var (pv 5)) (pas_cons (px_add (px_callC c__law_digits hr tkF (pas_cons (px_var (pv 0)) (pas_cons (px_sub (px_var (pv 2)) (px_var (pv 3))) (pas_cons (px_var (pv 6)) pas_nil)))) (px_lst (pas_cons px_int pas_nil))) pas_nil)))) (px_var (pv 1))) (pssx_one (psx_ret px_bl)) pssx_nil))))))))
  (pssx_one (psx_ret px_bl))))
theorem ok__law_due (B : Blt mg) (Z : Exs P w K mg base cm) (c__law_whole : CF P w K mg base cm "_law_whole" 1 ["_law_thing"] F__law_whole) (c__law_parted : CF P w K mg base cm "_law_parted" 2 ["_law_q", "_law_modulus"] F__law_parted) (F : Fun K "_law_due" "_law_due" s__law_due f fd) : FnOk P w K mg base (L2.CX P w) 3 f fd ["_law_prime", "_law_modulus"] (spF ⟨K, cm⟩ 2 F__law_due) :=
  have sc := sc__law_due
  fn_ok (body := B__law_due) (N := N__law_due) (ps := ["_law_prime", "_law_modulus"]) F sc (by decide) fun cdv A outer s H E hr =>
  (pssx_cons (psx_if (PBW.pb (pb_or (pb_not (pb_x (px_callC c__law_whole hr tkF (pas_cons (px_var (pv 0)) pas_nil)))) (pb_or1 (pb_notin hr (px_var (pv 0)) (px_tup (pas_cons px_int (pas_cons px_int pas_nil))))))) (pssx_one (psx_ret px_str)) pssx_nil)
  (pssx_cons (psx_if (PBW.pb (pb_or (pb_not (pb_x (px_isi Z.si B.b_isinstance (pas_cons (px_var (pv 1)) (pas_cons (px_tup (pas_cons (px_ty B.b_list) (pas_cons (px_ty B.b_tuple) pas_nil))) pas_nil))))) (pb_or (pb_lt (px_len B.b_len (pas_cons (px_var (pv 1)) pas_nil)) px_int) (pb_or1 (pb_gt (px_len B.b_len (pas_cons (px_var (pv 1)) pas_nil)) px_int))))) (pssx_one (psx_ret px_str)) pssx_nil)
  (pssx_cons (psx_for [2] hpF rfl (pix_seq (px_var (pv 1))) (pgx_name (i := 2) sc.nd) (pssx_one (psx_if (PBW.pb (pb_or (pb_not (pb_x (px_callC c__law_whole hr tkF (pas_cons (px_var (pv 2)) pas_nil)))) (pb_or (pb_lt (px_var (pv 2)) px_int) (pb_or1 (pb_ge (px_var (pv 2)) (px_var (pv 0))))))) (pssx_one (psx_ret px_str)) pssx_nil)))
  (pssx_cons (psx_if (pb_ne hr (px_ix (px_var (pv 1)) (px_neg px_int)) px_int) (pssx_one (psx_ret px_str)) pssx_nil)
  (pssx_cons (psx_if (PBW.pb (pb_and (pb_eq hr (px_var (pv 0)) px_int) (pb_and1 (pb_eq hr (px_len B.b_len (pas_cons (px_var (pv 1)) pas_nil)) px_int)))) (pssx_one (psx_ret px_str)) pssx_nil)
  (pssx_cons (psx_if (pb_x (px_callC c__law_parted hr tkF (pas_cons (px_var (pv 0)) (pas_cons (px_list B.b_list (pas_cons (px_var (pv 1)) pas_nil)) pas_nil)))) (pssx_one (psx_ret px_str)) pssx_nil)
  (pssx_one (psx_ret px_non))))))))
theorem ok_is_whole (B : Blt mg) (Z : Exs P w K mg base cm)  {dvs : List V} (F : FunD K "is_whole" "is_whole" (defArgs s_is_whole) (defBody s_is_whole) (defScope s_is_whole) dvs [] f fd) : FnOk P w K mg base (L2.CX P w) 1 f fd ["thing", "low", "high"] (spF ⟨K, cm⟩ 3 F_is_whole) :=
  have sc := sc_is_whole
  fn_okD (body := B_is_whole) (N := N_is_whole) (ps := ["thing", "low", "high"]) F sc (by decide) fun cdv A outer s H E hr =>
  (pssx_cons (psx_if (PBW.pb (pb_or (pb_not (pb_x (px_isi Z.si B.b_isinstance (pas_cons (px_var (pv 0)) (pas_cons (px_ty B.b_int) pas_nil))))) (pb_or1 (pb_x (px_isi Z.si B.b_isinstance (pas_cons (px_var (pv 0)) (pas_cons (px_ty B.b_bool) pas_nil))))))) (pssx_one (psx_ret px_bl)) pssx_nil)
  (pssx_cons (psx_if (PBW.pb (pb_and (pb_isnot (px_var (pv 1)) px_non) (pb_and1 (pb_lt (px_var (pv 0)) (px_var (pv 1)))))) (pssx_one (psx_ret px_bl)) pssx_nil)
  (pssx_one (psx_ret (px_or (px_is (px_var (pv 2)) px_non) (px_one (px_le (px_var (pv 0)) (px_var (pv 2)))))))))
theorem ok_is_sequence (B : Blt mg) (Z : Exs P w K mg base cm)  (F : Fun K "is_sequence" "is_sequence" s_is_sequence f fd) : FnOk P w K mg base (L2.CX P w) 1 f fd ["thing"] (spF ⟨K, cm⟩ 1 F_is_sequence) :=
  have sc := sc_is_sequence
  fn_ok (body := B_is_sequence) (N := N_is_sequence) (ps := ["thing"]) F sc (by decide) fun cdv A outer s H E hr =>
  (pssx_one (psx_ret (px_isi Z.si B.b_isinstance (pas_cons (px_var (pv 0)) (pas_cons (px_tup (pas_cons (px_ty B.b_list) (pas_cons (px_ty B.b_tuple) pas_nil))) pas_nil)))))
theorem ok_is_digit_row (B : Blt mg) (Z : Exs P w K mg base cm) (c_is_sequence : CF P w K mg base cm "is_sequence" 1 ["thing"] F_is_sequence) (c_is_whole_3 : CF P w K mg base cm "is_whole" 1 ["thing", "low", "high"] F_is_whole) (F : Fun K "is_digit_row" "is_digit_row" s_is_digit_row f fd) : FnOk P w K mg base (L2.CX P w) 2 f fd ["prime", "width", "thing"] (spF ⟨K, cm⟩ 3 F_is_digit_row) :=
  have sc := sc_is_digit_row
  fn_ok (body := B_is_digit_row) (N := N_is_digit_row) (ps := ["prime", "width", "thing"]) F sc (by decide) fun cdv A outer s H E hr =>
  (pssx_cons (psx_if (PBW.pb (pb_or (pb_not (pb_x (px_callC c_is_sequence hr tkF (pas_cons (px_var (pv 2)) pas_nil)))) (pb_or1 (pb_ne hr (px_len B.b_len (pas_cons (px_var (pv 2)) pas_nil)) (px_var (pv 1)))))) (pssx_one (psx_ret px_bl)) pssx_nil)
  (pssx_one (psx_ret (px_allN rfl B.b_all (pas_cons (px_lc rfl sc.nd (pix_seq (px_var (pv 2))) (blkOk_by (own := [("digit", 3)]) (by first | (show blkC N_is_digit_row (defScope s_is_digit_row) _ _ = true; decide +kernel) | rfl)) (fun _ _ _ _ _ => (pgx_name (i := 3) sc.nd)) (fun _ _ _ _ _ => pbs_nil) (fun _ _ _ _ _ => (px_callC c_is_whole_3 hr takes0 (pas_cons (px_var (pv 3)) (pas_cons px_int (pas_cons (px_sub (px_var (pv 0)) px_int) pas_nil)))))) pas_nil)))))
theorem ok_power_of (B : Blt mg) (Z : Exs P w K mg base cm)  (F : Fun K "power_of" "power_of" s_power_of f fd) : FnOk P w K mg base (L2.CX P w) 1 f fd ["base", "exponent"] (spF ⟨K, cm⟩ 2 F_power_of) :=
  have sc := sc_power_of
  fn_ok (body := B_power_of) (N := N_power_of) (ps := ["base", "exponent"]) F sc (by decide) fun cdv A outer s H E hr =>
  (pssx_cons (psx_set (i := 2) sc.nd px_int)
  (pssx_cons (psx_for [3] hpF rfl (pix_rng1 B.b_range (pas_cons (px_var (pv 1)) pas_nil) (many_cons many_nil)) (pgx_name (i := 3) sc.nd) (pssx_one (psx_set (i := 2) sc.nd (px_mul (px_var (pv 2)) (px_var (pv 0))))))
  (pssx_one (psx_ret (px_var (pv 2))))))
theorem ok_base_digits (B : Blt mg) (Z : Exs P w K mg base cm)  (F : Fun K "base_digits" "base_digits" s_base_digits f fd) : FnOk P w K mg base (L2.CX P w) 1 f fd ["prime", "many", "number"] (spF ⟨K, cm⟩ 3 F_base_digits) :=
  have sc := sc_base_digits
  fn_ok (body := B_base_digits) (N := N_base_digits) (ps := ["prime", "many", "number"]) F sc (by decide) fun cdv A outer s H E hr =>
  (pssx_cons (psx_set (i := 3) sc.nd (px_lst pas_nil))
  (pssx_cons (psx_for [4] hpF rfl (pix_rng1 B.b_range (pas_cons (px_var (pv 1)) pas_nil) (many_cons many_nil)) (pgx_name (i := 4) sc.nd) (pssx_cons (psx_expr (px_app (k := 3) (pv 3) (px_mod (px_var (pv 2)) (px_var (pv 0))) (pe_bm PySem.F.plainAttrs_list PySem.F.slot_list_append PySem.F.type_list_append mt_append (pv 3) (pa_cons (PX.pe (px_mod (px_var (pv 2)) (px_var (pv 0)))) pa_nil))))
  (pssx_one (psx_set (i := 2) sc.nd (px_div (px_var (pv 2)) (px_var (pv 0)))))))
  (pssx_one (psx_ret (px_tuple B.b_tuple (pas_cons (px_var (pv 3)) pas_nil))))))
theorem ok_rest_by_monic (B : Blt mg) (Z : Exs P w K mg base cm)  (F : Fun K "rest_by_monic" "rest_by_monic" s_rest_by_monic f fd) : FnOk P w K mg base (L2.CX P w) 1 f fd ["prime", "digits", "divisor"] (spF ⟨K, cm⟩ 3 F_rest_by_monic) :=
  have sc := sc_rest_by_monic
  fn_ok (body := B_rest_by_monic) (N := N_rest_by_monic) (ps := ["prime", "digits", "divisor"]) F sc (by decide) fun cdv A outer s H E hr =>
  (pssx_cons (psx_set (i := 3) sc.nd (px_list B.b_list (pas_cons (px_var (pv 1)) pas_nil)))
  (pssx_cons (psx_set (i := 4) sc.nd (px_sub (px_len B.b_len (pas_cons (px_var (pv 2)) pas_nil)) px_int))
  (pssx_cons (psx_for [5, 6, 7, 8] hpF rfl (pix_rng3 B.b_range (pas_cons (px_sub (px_len B.b_len (pas_cons (px_var (pv 3)) pas_nil)) px_int) (pas_cons (px_sub (px_var (pv 4)) px_int) (pas_cons (px_neg px_int) pas_nil)))) (pgx_name (i := 5) sc.nd) (pssx_cons (psx_set (i := 6) sc.nd (px_ix (px_var (pv 3)) (px_var (pv 5))))
  (pssx_one (psx_for [7, 8] hpF rfl (pix_rng1 B.b_range (pas_cons (px_add (px_var (pv 4)) px_int) pas_nil) (many_cons many_nil)) (pgx_name (i := 7) sc.nd) (pssx_cons (psx_set (i := 8) sc.nd (px_add (px_sub (px_var (pv 5)) (px_var (pv 4))) (px_var (pv 7))))
  (pssx_one (psx_setI (k := 3) (px_mod (px_sub (px_ix (px_var (pv 3)) (px_var (pv 8))) (px_mul (px_var (pv 6)) (px_ix (px_var (pv 2)) (px_var (pv 7))))) (px_var (pv 0))) (px_var (pv 8)) (ps_asg (PX.pe (px_mod (px_sub (px_ix (px_var (pv 3)) (px_var (pv 8))) (px_mul (px_var (pv 6)) (px_ix (px_var (pv 2)) (px_var (pv 7))))) (px_var (pv 0)))) (pg_sub (pv 3) (PX.pe (px_var (pv 8))) set_list)))))))))
  (pssx_one (psx_ret (px_slice (px_var (pv 3)) pp_none (pp_some (px_var (pv 4)))))))))
theorem ok_has_divisor (B : Blt mg) (Z : Exs P w K mg base cm) (c_power_of : CF P w K mg base cm "power_of" 1 ["base", "exponent"] F_power_of) (c_base_digits : CF P w K mg base cm "base_digits" 1 ["prime", "many", "number"] F_base_digits) (c_rest_by_monic : CF P w K mg base cm "rest_by_monic" 1 ["prime", "digits", "divisor"] F_rest_by_monic) (F : Fun K "has_divisor" "has_divisor" s_has_divisor f fd) : FnOk P w K mg base (L2.CX P w) 2 f fd ["prime", "modulus"] (spF ⟨K, cm⟩ 2 F_has_divisor) :=
  have sc := sc_has_divisor
  fn_ok (body := B_has_divisor) (N := N_has_divisor) (ps := ["prime", "modulus"]) F sc (by decide) fun cdv A outer s H E hr =>
  (pssx_cons (psx_for [2, 3, 4] hpF rfl (pix_rng2 B.b_range (pas_cons px_int (pas_cons (px_add (px_div (px_sub (px_len B.b_len (pas_cons (px_var (pv 1)) pas_nil)) px_int) px_int) px_int) pas_nil)) (many_cons (many_cons many_nil))) (pgx_name (i := 2) sc.nd) (pssx_one (psx_for [3, 4] hpF rfl (pix_rng1 B.b_range (pas_cons (px_callC c_power_of hr tkF (pas_cons (px_var (pv 0)) (pas_cons (px_var (pv 2)) pas_nil))) pas_nil) (many_cons many_nil)) (pgx_name (i := 3) sc.nd) (pssx_cons (psx_set (i := 4) sc.nd (px_add (px_callC c_base_digits hr tkF (pas_cons (px_var (pv 0)) (pas_cons (px_var (pv 2)) (pas_cons (px_var (pv 3)) pas_nil)))) (px_tup (pas_cons px_int pas_nil))))
  (pssx_one (psx_if (pb_not (pb_x (px_anyN rfl B.b_any (pas_cons (px_callC c_rest_by_monic hr tkF (pas_cons (px_var (pv 0)) (pas_cons (px_var (pv 1)) (pas_cons (px_var (pv 4)) pas_nil)))) pas_nil)))) (pssx_one (psx_ret px_bl)) pssx_nil))))))
  (pssx_one (psx_ret px_bl)))
theorem ok_field_fault (B : Blt mg) (Z : Exs P w K mg base cm) (c_is_sequence : CF P w K mg base cm "is_sequence" 1 ["thing"] F_is_sequence) (c_is_digit_row : CF P w K mg base cm "is_digit_row" 2 ["prime", "width", "thing"] F_is_digit_row) (c_power_of : CF P w K mg base cm "power_of" 1 ["base", "exponent"] F_power_of) (c_has_divisor : CF P w K mg base cm "has_divisor" 2 ["prime", "modulus"] F_has_divisor) (c_is_whole_3 : CF P w K mg base cm "is_whole" 1 ["thing", "low", "high"] F_is_whole) (F : Fun K "field_fault" "field_fault" s_field_fault f fd) : FnOk P w K mg base (L2.CX P w) 3 f fd ["prime", "modulus"] (spF ⟨K, cm⟩ 2 F_field_fault) :=
  have sc := sc_field_fault
  fn_ok (body := B_field_fault) (N := N_field_fault) (ps := ["prime", "modulus"]) F sc (by decide) fun cdv A outer s H E hr =>
  (pssx_cons (psx_if (pb_not (pb_x (px_callC c_is_whole_3 hr tkF (pas_cons (px_var (pv 0)) (pas_cons px_int (pas_cons px_int pas_nil)))))) (pssx_one (psx_ret px_str)) pssx_nil)
  (pssx_cons (psx_if (PBW.pb (pb_or (pb_not (pb_x (px_callC c_is_sequence hr tkF (pas_cons (px_var (pv 1)) pas_nil)))) (pb_or1 (pb_not (pb_lele px_int (px_len B.b_len (pas_cons (px_var (pv 1)) pas_nil)) px_int))))) (pssx_one (psx_ret px_str)) pssx_nil)
  (pssx_cons (psx_if (PBW.pb (pb_or (pb_not (pb_x (px_callC c_is_digit_row hr tkF (pas_cons (px_var (pv 0)) (pas_cons (px_len B.b_len (pas_cons (px_var (pv 1)) pas_nil)) (pas_cons (px_var (pv 1)) pas_nil)))))) (pb_or1 (pb_ne hr (px_ix (px_var (pv 1)) (px_neg px_int)) px_int)))) (pssx_one (psx_ret px_str)) pssx_nil)
  (pssx_cons (psx_if (pb_gt (px_callC c_power_of hr tkF (pas_cons (px_var (pv 0)) (pas_cons (px_sub (px_len B.b_len (pas_cons (px_var (pv 1)) pas_nil)) px_int) pas_nil))) px_int) (pssx_one (psx_ret px_str)) pssx_nil)
  (pssx_cons (psx_if (pb_x (px_callC c_has_divisor hr tkF (pas_cons (px_var (pv 0)) (pas_cons (px_var (pv 1)) pas_nil)))) (pssx_one (psx_ret px_str)) pssx_nil)
  (pssx_one (psx_ret px_non)))))))
theorem ok_digits_value (B : Blt mg) (Z : Exs P w K mg base cm)  (F : Fun K "digits_value" "digits_value" s_digits_value f fd) : FnOk P w K mg base (L2.CX P w) 1 f fd ["prime", "digits"] (spF ⟨K, cm⟩ 2 F_digits_value) :=
  have sc := sc_digits_value
  fn_ok (body := B_digits_value) (N := N_digits_value) (ps := ["prime", "digits"]) F sc (by decide) fun cdv A outer s H E hr =>
  (pssx_cons (psx_set (i := 2) sc.nd px_int)
  (pssx_cons (psx_for [3] hpF rfl (pix_rev B.b_reversed (px_list B.b_list (pas_cons (px_var (pv 1)) pas_nil))) (pgx_name (i := 3) sc.nd) (pssx_one (psx_set (i := 2) sc.nd (px_add (px_mul (px_var (pv 2)) (px_var (pv 0))) (px_var (pv 3))))))
  (pssx_one (psx_ret (px_var (pv 2))))))
theorem ok_sums_of (B : Blt mg) (Z : Exs P w K mg base cm) (c_digits_value : CF P w K mg base cm "digits_value" 1 ["prime", "digits"] F_digits_value) (F : Fun K "sums_of" "sums_of" s_sums_of f fd) : FnOk P w K mg base (L2.CX P w) 2 f fd ["prime", "digit_rows"] (spF ⟨K, cm⟩ 2 F_sums_of) :=
  have sc := sc_sums_of
  fn_ok (body := B_sums_of) (N := N_sums_of) (ps := ["prime", "digit_rows"]) F sc (by decide) fun cdv A outer s H E hr =>
  (pssx_cons (psx_set (i := 2) sc.nd (px_lst pas_nil))
  (pssx_cons (psx_for [3, 4, 5] hpF rfl (pix_seq (px_var (pv 1))) (pgx_name (i := 3) sc.nd) (pssx_cons (psx_set (i := 4) sc.nd (px_lst pas_nil))
  (pssx_cons (psx_for [5] hpF rfl (pix_seq (px_var (pv 1))) (pgx_name (i := 5) sc.nd) (pssx_one (psx_expr (px_app (k := 4) (pv 4) (px_callC c_digits_value hr tkF (pas_cons (px_var (pv 0)) (pas_cons (px_lc rfl sc.nd (pix_zip B.b_zip (pas_cons (px_var (pv 3)) (pas_cons (px_var (pv 5)) pas_nil))) (blkOk_by (own := [("a", 6), ("b", 7)]) (by first | (show blkC N_sums_of (defScope s_sums_of) _ _ = true; decide +kernel) | rfl)) (fun _ _ _ _ _ => (pgx_tup rfl (pgsx_cons (pgx_name (i := 6) sc.nd) (pgsx_cons (pgx_name (i := 7) sc.nd) pgsx_nil)))) (fun _ _ _ _ _ => pbs_nil) (fun _ _ _ _ _ => (px_mod (px_add (px_var (pv 6)) (px_var (pv 7))) (px_var (pv 0))))) pas_nil))) (pe_bm PySem.F.plainAttrs_list PySem.F.slot_list_append PySem.F.type_list_append mt_append (pv 4) (pa_cons (PX.pe (px_callC c_digits_value hr tkF (pas_cons (px_var (pv 0)) (pas_cons (px_lc rfl sc.nd (pix_zip B.b_zip (pas_cons (px_var (pv 3)) (pas_cons (px_var (pv 5)) pas_nil))) (blkOk_by (own := [("a", 6), ("b", 7)]) (by first | (show blkC N_sums_of (defScope s_sums_of) _ _ = true; decide +kernel) | rfl)) (fun _ _ _ _ _ => (pgx_tup rfl (pgsx_cons (pgx_name (i := 6) sc.nd) (pgsx_cons (pgx_name (i := 7) sc.nd) pgsx_nil)))) (fun _ _ _ _ _ => pbs_nil) (fun _ _ _ _ _ => (px_mod (px_add (px_var (pv 6)) (px_var (pv 7))) (px_var (pv 0))))) pas_nil)))) pa_nil))))))
  (pssx_one (psx_expr (px_app (k := 2) (pv 2) (px_tupleF B.b_tuple (pas_cons (px_var (pv 4)) pas_nil)) (pe_bm PySem.F.plainAttrs_list PySem.F.slot_list_append PySem.F.type_list_append mt_append (pv 2) (pa_cons (PX.pe (px_tupleF B.b_tuple (pas_cons (px_var (pv 4)) pas_nil))) pa_nil))))))))
  (pssx_one (psx_ret (px_tuple B.b_tuple (pas_cons (px_var (pv 2)) pas_nil))))))
theorem ok_products_of (B : Blt mg) (Z : Exs P w K mg base cm) (c_digits_value : CF P w K mg base cm "digits_value" 1 ["prime", "digits"] F_digits_value) (c_rest_by_monic : CF P w K mg base cm "rest_by_monic" 1 ["prime", "digits", "divisor"] F_rest_by_monic) (F : Fun K "products_of" "products_of" s_products_of f fd) : FnOk P w K mg base (L2.CX P w) 2 f fd ["prime", "modulus", "digit_rows", "sum_rows"] (spF ⟨K, cm⟩ 4 F_products_of) :=
  have sc := sc_products_of
  fn_ok (body := B_products_of) (N := N_products_of) (ps := ["prime", "modulus", "digit_rows", "sum_rows"]) F sc (by decide) fun cdv A outer s H E hr =>
  (pssx_cons (psx_set (i := 4) sc.nd (px_sub (px_len B.b_len (pas_cons (px_var (pv 1)) pas_nil)) px_int))
  (pssx_cons (psx_set (i := 5) sc.nd (px_lst pas_nil))
  (pssx_cons (psx_for [6, 7, 8, 9, 10, 11, 12, 13] hpF rfl (pix_seq (px_var (pv 2))) (pgx_name (i := 6) sc.nd) (pssx_cons (psx_set (i := 7) sc.nd (px_lst pas_nil))
  (pssx_cons (psx_set (i := 8) sc.nd (px_list B.b_list (pas_cons (px_var (pv 6)) pas_nil)))
  (pssx_cons (psx_for [9] hpF rfl (pix_rng1 B.b_range (pas_cons (px_var (pv 4)) pas_nil) (many_cons many_nil)) (pgx_name (i := 9) sc.nd) (pssx_cons (psx_expr (px_app (k := 7) (pv 7) (px_callC c_digits_value hr tkF (pas_cons (px_var (pv 0)) (pas_cons (px_var (pv 8)) pas_nil))) (pe_bm PySem.F.plainAttrs_list PySem.F.slot_list_append PySem.F.type_list_append mt_append (pv 7) (pa_cons (PX.pe (px_callC c_digits_value hr tkF (pas_cons (px_var (pv 0)) (pas_cons (px_var (pv 8)) pas_nil)))) pa_nil))))
  (pssx_one (psx_set (i := 8) sc.nd (px_callC c_rest_by_monic hr tkF (pas_cons (px_var (pv 0)) (pas_cons (px_add (px_lst (pas_cons px_int pas_nil)) (px_var (pv 8))) (pas_cons (px_var (pv 1)) pas_nil))))))))
  (pssx_cons (psx_set (i := 10) sc.nd (px_lst (pas_cons px_int pas_nil)))
  (pssx_cons (psx_for [9, 11, 12, 13] hpF rfl (pix_rng1 B.b_range (pas_cons (px_var (pv 4)) pas_nil) (many_cons many_nil)) (pgx_name (i := 11) sc.nd) (pssx_cons (psx_set (i := 12) sc.nd (px_ix (px_var (pv 7)) (px_var (pv 11))))
  (pssx_cons (psx_set (i := 13) sc.nd (px_len B.b_len (pas_cons (px_var (pv 10)) pas_nil)))
  (pssx_one (psx_for [9] hpF rfl (pix_rng1 B.b_range (pas_cons (px_mul (px_sub (px_var (pv 0)) px_int) (px_var (pv 13))) pas_nil) (many_cons many_nil)) (pgx_name (i := 9) sc.nd) (pssx_one (psx_expr (px_app (k := 10) (pv 10) (px_ix (px_ix (px_var (pv 3)) (px_ix (px_var (pv 10)) (px_sub (px_len B.b_len (pas_cons (px_var (pv 10)) pas_nil)) (px_var (pv 13))))) (px_var (pv 12))) (pe_bm PySem.F.plainAttrs_list PySem.F.slot_list_append PySem.F.type_list_append mt_append (pv 10) (pa_cons (PX.pe (px_ix (px_ix (px_var (pv 3)) (px_ix (px_var (pv 10)) (px_sub (px_len B.b_len (pas_cons (px_var (pv 10)) pas_nil)) (px_var (pv 13))))) (px_var (pv 12)))) pa_nil))))))))))
  (pssx_one (psx_expr (px_app (k := 5) (pv 5) (px_tupleF B.b_tuple (pas_cons (px_var (pv 10)) pas_nil)) (pe_bm PySem.F.plainAttrs_list PySem.F.slot_list_append PySem.F.type_list_append mt_append (pv 5) (pa_cons (PX.pe (px_tupleF B.b_tuple (pas_cons (px_var (pv 10)) pas_nil))) pa_nil)))))))))))
  (pssx_one (psx_ret (px_tuple B.b_tuple (pas_cons (px_var (pv 5)) pas_nil)))))))
theorem ok_Field_raised (B : Blt mg) (Z : Exs P w K mg base cm)  (F : Fun K "raised" "Field.raised" s_Field_raised f fd) : FnOk P w K mg base (L2.CX P w) 1 f fd ["self", "thing"] (spF ⟨K, cm⟩ 2 F_Field_raised) :=
  have sc := sc_Field_raised
  fn_ok (body := B_Field_raised) (N := N_Field_raised) (ps := ["self", "thing"]) F sc (by decide) fun cdv A outer s H E hr =>
  (pssx_cons (psx_set (i := 2) sc.nd (px_var (pv 1)))
  (pssx_cons (psx_for [3] hpF rfl (pix_rng1 B.b_range (pas_cons (px_sub (px_fld Z.f_prime (px_var (pv 0))) px_int) pas_nil) (many_cons many_nil)) (pgx_name (i := 3) sc.nd) (pssx_one (psx_set (i := 2) sc.nd (px_ix (px_ix (px_fld Z.f_product_rows (px_var (pv 0))) (px_var (pv 2))) (px_var (pv 1))))))
  (pssx_one (psx_ret (px_var (pv 2))))))
theorem ok_Field___init__ (B : Blt mg) (Z : Exs P w K mg base cm) (c_field_fault : CF P w K mg base cm "field_fault" 3 ["prime", "modulus"] F_field_fault) (c_power_of : CF P w K mg base cm "power_of" 1 ["base", "exponent"] F_power_of) (c_base_digits : CF P w K mg base cm "base_digits" 1 ["prime", "many", "number"] F_base_digits) (c_sums_of : CF P w K mg base cm "sums_of" 2 ["prime", "digit_rows"] F_sums_of) (c_products_of : CF P w K mg base cm "products_of" 2 ["prime", "modulus", "digit_rows", "sum_rows"] F_products_of) (c_m_raised_Field : CM P w K mg base cm "raised" 1 1 t_m_raised_Field) (F : Fun K "__init__" "Field.__init__" s_Field___init__ f fd) : FnOk P w K mg base (L2.CX P w) 4 f fd ["self", "prime", "modulus"] (spIO ⟨K, cm⟩ 3 F_Field___init__) :=
  have sc := sc_Field___init__
  fnIO_ok (body := B_Field___init__) (N := N_Field___init__) (ps := ["self", "prime", "modulus"]) F sc (by decide) fun cdv A outer s H E a hr =>
  (pssx_cons (psx_set (i := 3) sc.nd (px_callC c_field_fault hr tkF (pas_cons (px_var (pv 1)) (pas_cons (px_var (pv 2)) pas_nil))))
  (pssx_cons (psx_if (pb_isnot (px_var (pv 3)) px_non) (pssx_one (psx_raise Z.e_BadField hr rfl tkF (pas_cons (px_var (pv 3)) pas_nil))) pssx_nil)
  (pssx_cons (psx_fld (k := 0) Z.f_prime (pv 0) (px_var (pv 1)))
  (pssx_cons (psx_fld (k := 0) Z.f_modulus (pv 0) (px_tuple B.b_tuple (pas_cons (px_var (pv 2)) pas_nil)))
  (pssx_cons (psx_fld (k := 0) Z.f_degree (pv 0) (px_sub (px_len B.b_len (pas_cons (px_fld Z.f_modulus (px_var (pv 0))) pas_nil)) px_int))
  (pssx_cons (psx_fld (k := 0) Z.f_size (pv 0) (px_callC c_power_of hr tkF (pas_cons (px_var (pv 1)) (pas_cons (px_fld Z.f_degree (px_var (pv 0))) pas_nil))))
  (pssx_cons (psx_fld (k := 0) Z.f_digit_rows (pv 0) (px_tuple B.b_tuple (pas_cons (px_lc rfl sc.nd (pix_rng1 B.b_range (pas_cons (px_fld Z.f_size (px_var (pv 0))) pas_nil) (many_cons many_nil)) (blkOk_by (own := [("thing", 4)]) (by first | (show blkC N_Field___init__ (defScope s_Field___init__) _ _ = true; decide +kernel) | rfl)) (fun _ _ _ _ _ => (pgx_name (i := 4) sc.nd)) (fun _ _ _ _ _ => pbs_nil) (fun _ _ _ _ _ => (px_callC c_base_digits hr takes0 (pas_cons (px_var (pv 1)) (pas_cons (px_fld Z.f_degree (px_var (pv 0))) (pas_cons (px_var (pv 4)) pas_nil)))))) pas_nil)))
  (pssx_cons (psx_fld (k := 0) Z.f_sum_rows (pv 0) (px_callC c_sums_of hr tkF (pas_cons (px_var (pv 1)) (pas_cons (px_fld Z.f_digit_rows (px_var (pv 0))) pas_nil))))
  (pssx_cons (psx_fld (k := 0) Z.f_product_rows (pv 0) (px_callC c_products_of hr tkF (pas_cons (px_var (pv 1)) (pas_cons (px_fld Z.f_modulus (px_var (pv 0))) (pas_cons (px_fld Z.f_digit_rows (px_var (pv 0))) (pas_cons (px_fld Z.f_sum_rows (px_var (pv 0))) pas_nil))))))
  (pssx_cons (psx_fld (k := 0) Z.f_negatives (pv 0) (px_tuple B.b_tuple (pas_cons (px_lc rfl sc.nd (pix_seq (px_fld Z.f_sum_rows (px_var (pv 0)))) (blkOk_by (own := [("row", 5)]) (by first | (show blkC N_Field___init__ (defScope s_Field___init__) _ _ = true; decide +kernel) | rfl)) (fun _ _ _ _ _ => (pgx_name (i := 5) sc.nd)) (fun _ _ _ _ _ => pbs_nil) (fun _ _ _ _ _ => (px_index (px_var (pv 5)) px_int))) pas_nil)))
  (pssx_cons (psx_fld (k := 0) Z.f_inverses (pv 0) (px_add (px_tup (pas_cons px_int pas_nil)) (px_tuple B.b_tuple (pas_cons (px_lc rfl sc.nd (pix_seq (px_slice (px_fld Z.f_product_rows (px_var (pv 0))) (pp_some px_int) pp_none)) (blkOk_by (own := [("row", 5)]) (by first | (show blkC N_Field___init__ (defScope s_Field___init__) _ _ = true; decide +kernel) | rfl)) (fun _ _ _ _ _ => (pgx_name (i := 5) sc.nd)) (fun _ _ _ _ _ => pbs_nil) (fun _ _ _ _ _ => (px_index (px_var (pv 5)) px_int))) pas_nil))))
  (pssx_one (psx_fld (k := 0) Z.f_step_row (pv 0) (px_tuple B.b_tuple (pas_cons (px_lc rfl sc.nd (pix_rng1 B.b_range (pas_cons (px_fld Z.f_size (px_var (pv 0))) pas_nil) (many_cons many_nil)) (blkOk_by (own := [("thing", 4)]) (by first | (show blkC N_Field___init__ (defScope s_Field___init__) _ _ = true; decide +kernel) | rfl)) (fun _ _ _ _ _ => (pgx_name (i := 4) sc.nd)) (fun _ _ _ _ _ => pbs_nil) (fun _ _ _ _ _ => (px_meth c_m_raised_Field hr takes0 (px_var (pv 0)) (pas_cons (px_var (pv 4)) pas_nil)))) pas_nil)))))))))))))))
theorem ok__law_told (B : Blt mg) (Z : Exs P w K mg base cm) (c_k_Field : CK P w K mg base cm "Field" cl_Field 4 2 F_Field___init__) (c__law_whole : CF P w K mg base cm "_law_whole" 1 ["_law_thing"] F__law_whole) (c__law_power : CF P w K mg base cm "_law_power" 1 ["_law_base", "_law_exponent"] F__law_power) (F : Fun K "_law_told" "_law_told" s__law_told f fd) : FnOk P w K mg base (L2.CX P w) 6 f fd ["_law_prime", "_law_modulus"] (spF ⟨K, cm⟩ 2 F__law_told) :=
  have sc := sc__law_told
  fn_ok (body := B__law_told) (N := N__law_told) (ps := ["_law_prime", "_law_modulus"]) F sc (by decide) fun cdv A outer s H E hr =>
  (pssx_cons (psx_set (i := 2) sc.nd px_non)
  (pssx_cons (psx_set (i := 3) sc.nd px_non)
  (pssx_cons (psx_try Z.S tkF (fun W1 pn1 xe1 t1 p1 => (pssx_one (psx_set (i := 3) sc.nd (px_val (px_make c_k_Field hr t1 (pas_cons (px_var (pv 0)) (pas_cons (px_var (pv 1)) pas_nil))))))) (.consN sc.nd rfl rfl rfl ⟨rfl, by decide, .inl Z.m_BadField⟩ (fun _ _ _ _ _ hz hf => (pssx_one (psx_set (i := 2) sc.nd (px_if (PBW.pb (pb_and (pb_x (px_isX Z.sx hz hf B.b_isinstance (pv 4) (px_cls (c := cl_RankError) Z.m_RankError))) (pb_and (pb_x (px_isX Z.sx hz hf B.b_isinstance (pv 4) (px_ty B.b_ValueError))) (pb_and1 (pb_not (pb_x (px_isX Z.sx hz hf B.b_isinstance (pv 4) (px_cls (c := cl_BadThing) Z.m_BadThing)))))))) (px_xf Z.t_0 hz hf (pv 4)) px_str)))) .nil))
  (pssx_cons (psx_if (pb_isnot (px_var (pv 2)) px_non) (pssx_one (psx_ret (px_var (pv 2)))) pssx_nil)
  (pssx_cons (psx_if (PBW.pb (pb_or (pb_not (pb_x (px_isi Z.si B.b_isinstance (pas_cons (px_fld Z.f_modulus (px_var (pv 3))) (pas_cons (px_ty B.b_tuple) pas_nil))))) (pb_or (pb_ne hr (px_fld Z.f_modulus (px_var (pv 3))) (px_tuple B.b_tuple (pas_cons (px_var (pv 1)) pas_nil))) (pb_or1 (pb_ne hr (px_fld Z.f_prime (px_var (pv 3))) (px_var (pv 0))))))) (pssx_one (psx_ret px_str)) pssx_nil)
  (pssx_cons (psx_if (PBW.pb (pb_or (pb_not (pb_x (px_callC c__law_whole hr tkF (pas_cons (px_fld Z.f_degree (px_var (pv 3))) pas_nil)))) (pb_or1 (pb_ne hr (px_fld Z.f_degree (px_var (pv 3))) (px_sub (px_len B.b_len (pas_cons (px_var (pv 1)) pas_nil)) px_int))))) (pssx_one (psx_ret px_str)) pssx_nil)
  (pssx_cons (psx_if (PBW.pb (pb_or (pb_not (pb_x (px_callC c__law_whole hr tkF (pas_cons (px_fld Z.f_size (px_var (pv 3))) pas_nil)))) (pb_or1 (pb_ne hr (px_fld Z.f_size (px_var (pv 3))) (px_callC c__law_power hr tkF (pas_cons (px_var (pv 0)) (pas_cons (px_sub (px_len B.b_len (pas_cons (px_var (pv 1)) pas_nil)) px_int) pas_nil))))))) (pssx_one (psx_ret px_str)) pssx_nil)
  (pssx_one (psx_ret px_non)))))))))
theorem ok_Field___eq__ (B : Blt mg) (Z : Exs P w K mg base cm)  (F : Fun K "__eq__" "Field.__eq__" s_Field___eq__ f fd) : FnOk P w K mg base (L2.CX P w) 1 f fd ["self", "other"] (spF ⟨K, cm⟩ 2 F_Field___eq__) :=
  have sc := sc_Field___eq__
  fn_ok (body := B_Field___eq__) (N := N_Field___eq__) (ps := ["self", "other"]) F sc (by decide) fun cdv A outer s H E hr =>
  (pssx_one (psx_ret (px_and (px_isi Z.si B.b_isinstance (pas_cons (px_var (pv 1)) (pas_cons (px_cls (c := cl_Field) Z.m_Field) pas_nil))) (px_and (px_eq hr (px_fld Z.f_prime (px_var (pv 0))) (px_fld Z.f_prime (px_var (pv 1)))) (px_one (px_eq hr (px_fld Z.f_modulus (px_var (pv 0))) (px_fld Z.f_modulus (px_var (pv 1)))))))))
theorem ok_law (B : Blt mg) (Z : Exs P w K mg base cm) (c__law_hand : CF P w K mg base cm "_law_hand" 1 ["_law_script"] F__law_hand) (c__law_drawn : CIO P w K mg base cm "_law_drawn" 4 ["_law_hand_here"] F__law_drawn) (c__law_due : CF P w K mg base cm "_law_due" 3 ["_law_prime", "_law_modulus"] F__law_due) (c__law_told : CF P w K mg base cm "_law_told" 6 ["_law_prime", "_law_modulus"] F__law_told) (c_k_Field : CK P w K mg base cm "Field" cl_Field 4 2 F_Field___init__) (c_eq : CE P w K mg base cm 1 t_eq) (c__law_figure : CIO P w K mg base cm "_law_figure" 3 ["_law_hand_here", "_law_most"] F__law_figure) (c__law_power : CF P w K mg base cm "_law_power" 1 ["_law_base", "_law_exponent"] F__law_power) (F : Fun K "law" "law" s_law f fd) : FnOk P w K mg base (L2.CX P w) 7 f fd ["_law_script"] (spF ⟨K, cm⟩ 1 F_law) :=
  have sc := sc_law
  fn_ok (body := B_law) (N := N_law) (ps := ["_law_script"]) F sc (by decide) fun cdv A outer s H E hr =>
  (pssx_cons (psx_set (i := 1) sc.nd (px_callC c__law_hand hr tkF (pas_cons (px_var (pv 0)) pas_nil)))
  (pssx_cons (psx_for [2, 3, 4, 5] hpF rfl (pix_rng1 B.b_range (pas_cons px_int pas_nil) (many_cons many_nil)) (pgx_name (i := 2) sc.nd) (pssx_cons (psx_asg (px_callI 1 c__law_drawn hr tkF (pv 1) pas_nil) (pgx_tup rfl (pgsx_cons (pgx_name (i := 3) sc.nd) (pgsx_cons (pgx_name (i := 4) sc.nd) pgsx_nil))))
  (pssx_cons (psx_set (i := 5) sc.nd (px_callC c__law_due hr tkF (pas_cons (px_var (pv 3)) (pas_cons (px_var (pv 4)) pas_nil))))
  (pssx_cons (psx_if (pb_ne hr (px_callC c__law_told hr tkF (pas_cons (px_var (pv 3)) (pas_cons (px_var (pv 4)) pas_nil))) (px_var (pv 5))) (pssx_one (psx_ret px_bl)) pssx_nil)
  (pssx_one (psx_if (PBW.pb (pb_and (pb_is (px_var (pv 5)) px_non) (pb_and1 (pb_not (pb_eqo c_eq hr (px_val (px_make c_k_Field hr tkF (pas_cons (px_var (pv 3)) (pas_cons (px_list B.b_list (pas_cons (px_var (pv 4)) pas_nil)) pas_nil)))) (px_val (px_make c_k_Field hr tkF (pas_cons (px_var (pv 3)) (pas_cons (px_tuple B.b_tuple (pas_cons (px_var (pv 4)) pas_nil)) pas_nil))))))))) (pssx_one (psx_ret px_bl)) pssx_nil))))))
  (pssx_cons (psx_asg (px_callI 1 c__law_figure hr tkF (pv 1) (pas_cons px_int pas_nil)) (pgx_tup rfl (pgsx_cons (pgx_name (i := 3) sc.nd) (pgsx_cons (pgx_name (i := 4) sc.nd) pgsx_nil))))
  (pssx_cons (psx_set (i := 6) sc.nd (px_list B.b_list (pas_cons (px_var (pv 4)) pas_nil)))
  (pssx_cons (psx_set (i := 7) sc.nd (px_val (px_make c_k_Field hr tkF (pas_cons (px_var (pv 3)) (pas_cons (px_var (pv 6)) pas_nil)))))
  (pssx_cons (psx_setI (k := 6) (px_add (px_ix (px_var (pv 6)) px_int) px_int) px_int (ps_asg (PX.pe (px_add (px_ix (px_var (pv 6)) px_int) px_int)) (pg_sub (pv 6) (PX.pe px_int) set_list)))
  (pssx_cons (psx_expr (px_app (k := 6) (pv 6) px_int (pe_bm PySem.F.plainAttrs_list PySem.F.slot_list_append PySem.F.type_list_append mt_append (pv 6) (pa_cons (PX.pe px_int) pa_nil))))
  (pssx_cons (psx_if (PBW.pb (pb_or (pb_ne hr (px_fld Z.f_modulus (px_var (pv 7))) (px_var (pv 4))) (pb_or1 (pb_ne hr (px_fld Z.f_size (px_var (pv 7))) (px_callC c__law_power hr tkF (pas_cons (px_var (pv 3)) (pas_cons (px_sub (px_len B.b_len (pas_cons (px_var (pv 4)) pas_nil)) px_int) pas_nil))))))) (pssx_one (psx_ret px_bl)) pssx_nil)
  (pssx_cons (psx_asg (px_callI 1 c__law_figure hr tkF (pv 1) (pas_cons px_int pas_nil)) (pgx_tup rfl (pgsx_cons (pgx_name (i := 8) sc.nd) (pgsx_cons (pgx_name (i := 9) sc.nd) pgsx_nil))))
  (pssx_cons (psx_set (i := 10) sc.nd (px_and (px_eq hr (px_var (pv 3)) (px_var (pv 8))) (px_one (px_eq hr (px_var (pv 4)) (px_var (pv 9))))))
  (pssx_cons (psx_if (PBW.pb (pb_or (pb_ne hr (px_eqo c_eq hr (px_var (pv 7)) (px_val (px_make c_k_Field hr tkF (pas_cons (px_var (pv 8)) (pas_cons (px_var (pv 9)) pas_nil))))) (px_var (pv 10))) (pb_or1 (pb_not (pb_eqo c_eq hr (px_var (pv 7)) (px_val (px_make c_k_Field hr tkF (pas_cons (px_var (pv 3)) (pas_cons (px_var (pv 4)) pas_nil))))))))) (pssx_one (psx_ret px_bl)) pssx_nil)
  (pssx_one (psx_ret (px_eq hr (px_callC c__law_told hr tkF (pas_cons (px_sub px_int (px_var (pv 3))) (pas_cons (px_var (pv 9)) pas_nil))) (px_callC c__law_due hr tkF (pas_cons (px_sub px_int (px_var (pv 3))) (pas_cons (px_var (pv 9)) pas_nil)))))))))))))))))
theorem all_mk {h : Heap} {fa : Addr} (X : K.In h) (G : h.Ns mainGlobals mg) (hfa : mg "law" = some (.ref fa))
    {C0 C1 C2 C3 f0 f1 f2 f3 f4 f5 f6 f7 f8 f9 f10 f11 f12 f13 f14 T14 f15 f16 f17 f18 f19 f20 f21 f22 f23 f24 f25 f26 f27 f28 f29 fI1 : Addr} {od0 an0 od1 an1 od2 an2 od3 an3 od4 an4 od5 an5 od6 an6 od7 an7 od8 an8 od9 an9 od10 an10 od11 an11 od12 an12 od13 an13 td14 od14 an14 od15 an15 od16 an16 od17 an17 od18 an18 od19 an19 od20 an20 od21 an21 od22 an22 od23 an23 od24 an24 od25 an25 od26 an26 od27 an27 od28 an28 od29 an29 odI1 anI1 : Option Addr} {sl0 sl1 sl2 sl3 sl4 sl5 sl6 sl7 sl8 sl9 sl10 sl11 sl12 sl13 ts14 sl14 sl15 sl16 sl17 sl18 sl19 sl20 sl21 sl22 sl23 sl24 sl25 sl26 sl27 sl28 sl29 slI1 : Array (Option Value)} {oc0 kV0 dc0 pm0 cd0 ct0 oc1 kV1 dc1 pm1 cd1 ct1 oc2 kV2 dc2 pm2 cd2 ct2 oc3 kV3 dc3 pm3 cd3 ct3 oc4 kV4 dc4 pm4 cd4 ct4 oc5 kV5 dc5 pm5 cd5 ct5 oc6 kV6 dc6 pm6 cd6 ct6 oc7 kV7 dc7 pm7 cd7 ct7 oc8 kV8 dc8 pm8 cd8 ct8 oc9 kV9 dc9 pm9 cd9 ct9 oc10 kV10 dc10 pm10 cd10 ct10 oc11 kV11 dc11 pm11 cd11 ct11 oc12 kV12 dc12 pm12 cd12 ct12 oc13 kV13 dc13 pm13 cd13 ct13 tc14 oc14 kV14 dc14 pm14 cd14 ct14 oc15 kV15 dc15 pm15 cd15 ct15 oc16 kV16 dc16 pm16 cd16 ct16 oc17 kV17 dc17 pm17 cd17 ct17 oc18 kV18 dc18 pm18 cd18 ct18 oc19 kV19 dc19 pm19 cd19 ct19 oc20 kV20 dc20 pm20 cd20 ct20 oc21 kV21 dc21 pm21 cd21 ct21 oc22 kV22 dc22 pm22 cd22 ct22 oc23 kV23 dc23 pm23 cd23 ct23 oc24 kV24 dc24 pm24 cd24 ct24 oc25 kV25 dc25 pm25 cd25 ct25 oc26 kV26 dc26 pm26 cd26 ct26 oc27 kV27 dc27 pm27 cd27 ct27 oc28 kV28 dc28 pm28 cd28 ct28 oc29 kV29 dc29 pm29 cd29 ct29 ocI1 kVI1 dcI1 pmI1 cdI1 ctI1 : Value} {tn14 : Nat}
    (aC0 : PySem.W.nsIn K mainGlobals "Field" = some (some (.ref C0)))
    (aC1 : PySem.W.nsIn K mainGlobals "BadField" = some (some (.ref C1)))
    (aC2 : PySem.W.nsIn K mainGlobals "RankError" = some (some (.ref C2)))
    (aC3 : PySem.W.nsIn K mainGlobals "BadThing" = some (some (.ref C3)))
    (clC0 : clB K C0 ["modulus", "size", "prime", "degree", "digit_rows", "sum_rows", "product_rows", "negatives", "inverses", "step_row"] = true)
    (ifC0 : ifB K C0 = true)
    (a0 : PySem.W.nsIn K mainGlobals "_law_hand" = some (some (.ref f0))) (l0 : K.lookup f0 = some ⟨oc0, od0, .func (PySem.W.fnOf "_law_hand" "_law_hand" (defArgs s__law_hand) (defBody s__law_hand) (defScope s__law_hand) .none kV0 dc0 pm0 an0 cd0 ct0), sl0⟩) (e0 : PySem.W.codeIn K cd0 "_law_hand" = true) (k0 : PySem.W.keepIn K (.ref f0) = true)
    (a1 : PySem.W.nsIn K mainGlobals "_law_mixed" = some (some (.ref f1))) (l1 : K.lookup f1 = some ⟨oc1, od1, .func (PySem.W.fnOf "_law_mixed" "_law_mixed" (defArgs s__law_mixed) (defBody s__law_mixed) (defScope s__law_mixed) .none kV1 dc1 pm1 an1 cd1 ct1), sl1⟩) (e1 : PySem.W.codeIn K cd1 "_law_mixed" = true) (k1 : PySem.W.keepIn K (.ref f1) = true)
    (a2 : PySem.W.nsIn K mainGlobals "_law_take" = some (some (.ref f2))) (l2 : K.lookup f2 = some ⟨oc2, od2, .func (PySem.W.fnOf "_law_take" "_law_take" (defArgs s__law_take) (defBody s__law_take) (defScope s__law_take) .none kV2 dc2 pm2 an2 cd2 ct2), sl2⟩) (e2 : PySem.W.codeIn K cd2 "_law_take" = true) (k2 : PySem.W.keepIn K (.ref f2) = true)
    (a3 : PySem.W.nsIn K mainGlobals "_law_moduli" = some (some (.ref f3))) (l3 : K.lookup f3 = some ⟨oc3, od3, .func (PySem.W.fnOf "_law_moduli" "_law_moduli" (defArgs s__law_moduli) (defBody s__law_moduli) (defScope s__law_moduli) .none kV3 dc3 pm3 an3 cd3 ct3), sl3⟩) (e3 : PySem.W.codeIn K cd3 "_law_moduli" = true) (k3 : PySem.W.keepIn K (.ref f3) = true)
    (a4 : PySem.W.nsIn K mainGlobals "_law_figure" = some (some (.ref f4))) (l4 : K.lookup f4 = some ⟨oc4, od4, .func (PySem.W.fnOf "_law_figure" "_law_figure" (defArgs s__law_figure) (defBody s__law_figure) (defScope s__law_figure) .none kV4 dc4 pm4 an4 cd4 ct4), sl4⟩) (e4 : PySem.W.codeIn K cd4 "_law_figure" = true) (k4 : PySem.W.keepIn K (.ref f4) = true)
    (a5 : PySem.W.nsIn K mainGlobals "_law_spoiled" = some (some (.ref f5))) (l5 : K.lookup f5 = some ⟨oc5, od5, .func (PySem.W.fnOf "_law_spoiled" "_law_spoiled" (defArgs s__law_spoiled) (defBody s__law_spoiled) (defScope s__law_spoiled) .none kV5 dc5 pm5 an5 cd5 ct5), sl5⟩) (e5 : PySem.W.codeIn K cd5 "_law_spoiled" = true) (k5 : PySem.W.keepIn K (.ref f5) = true)
    (a6 : PySem.W.nsIn K mainGlobals "_law_free" = some (some (.ref f6))) (l6 : K.lookup f6 = some ⟨oc6, od6, .func (PySem.W.fnOf "_law_free" "_law_free" (defArgs s__law_free) (defBody s__law_free) (defScope s__law_free) .none kV6 dc6 pm6 an6 cd6 ct6), sl6⟩) (e6 : PySem.W.codeIn K cd6 "_law_free" = true) (k6 : PySem.W.keepIn K (.ref f6) = true)
    (a7 : PySem.W.nsIn K mainGlobals "_law_drawn" = some (some (.ref f7))) (l7 : K.lookup f7 = some ⟨oc7, od7, .func (PySem.W.fnOf "_law_drawn" "_law_drawn" (defArgs s__law_drawn) (defBody s__law_drawn) (defScope s__law_drawn) .none kV7 dc7 pm7 an7 cd7 ct7), sl7⟩) (e7 : PySem.W.codeIn K cd7 "_law_drawn" = true) (k7 : PySem.W.keepIn K (.ref f7) = true)
    (a8 : PySem.W.nsIn K mainGlobals "_law_whole" = some (some (.ref f8))) (l8 : K.lookup f8 = some ⟨oc8, od8, .func (PySem.W.fnOf "_law_whole" "_law_whole" (defArgs s__law_whole) (defBody s__law_whole) (defScope s__law_whole) .none kV8 dc8 pm8 an8 cd8 ct8), sl8⟩) (e8 : PySem.W.codeIn K cd8 "_law_whole" = true) (k8 : PySem.W.keepIn K (.ref f8) = true)
    (a9 : PySem.W.nsIn K mainGlobals "_law_power" = some (some (.ref f9))) (l9 : K.lookup f9 = some ⟨oc9, od9, .func (PySem.W.fnOf "_law_power" "_law_power" (defArgs s__law_power) (defBody s__law_power) (defScope s__law_power) .none kV9 dc9 pm9 an9 cd9 ct9), sl9⟩) (e9 : PySem.W.codeIn K cd9 "_law_power" = true) (k9 : PySem.W.keepIn K (.ref f9) = true)
    (a10 : PySem.W.nsIn K mainGlobals "_law_digits" = some (some (.ref f10))) (l10 : K.lookup f10 = some ⟨oc10, od10, .func (PySem.W.fnOf "_law_digits" "_law_digits" (defArgs s__law_digits) (defBody s__law_digits) (defScope s__law_digits) .none kV10 dc10 pm10 an10 cd10 ct10), sl10⟩) (e10 : PySem.W.codeIn K cd10 "_law_digits" = true) (k10 : PySem.W.keepIn K (.ref f10) = true)
    (a11 : PySem.W.nsIn K mainGlobals "_law_product" = some (some (.ref f11))) (l11 : K.lookup f11 = some ⟨oc11, od11, .func (PySem.W.fnOf "_law_product" "_law_product" (defArgs s__law_product) (defBody s__law_product) (defScope s__law_product) .none kV11 dc11 pm11 an11 cd11 ct11), sl11⟩) (e11 : PySem.W.codeIn K cd11 "_law_product" = true) (k11 : PySem.W.keepIn K (.ref f11) = true)
    (a12 : PySem.W.nsIn K mainGlobals "_law_parted" = some (some (.ref f12))) (l12 : K.lookup f12 = some ⟨oc12, od12, .func (PySem.W.fnOf "_law_parted" "_law_parted" (defArgs s__law_parted) (defBody s__law_parted) (defScope s__law_parted) .none kV12 dc12 pm12 an12 cd12 ct12), sl12⟩) (e12 : PySem.W.codeIn K cd12 "_law_parted" = true) (k12 : PySem.W.keepIn K (.ref f12) = true)
    (a13 : PySem.W.nsIn K mainGlobals "_law_due" = some (some (.ref f13))) (l13 : K.lookup f13 = some ⟨oc13, od13, .func (PySem.W.fnOf "_law_due" "_law_due" (defArgs s__law_due) (defBody s__law_due) (defScope s__law_due) .none kV13 dc13 pm13 an13 cd13 ct13), sl13⟩) (e13 : PySem.W.codeIn K cd13 "_law_due" = true) (k13 : PySem.W.keepIn K (.ref f13) = true)
    (a14 : PySem.W.nsIn K mainGlobals "is_whole" = some (some (.ref f14))) (l14 : K.lookup f14 = some ⟨oc14, od14, .func (PySem.W.fnOf "is_whole" "is_whole" (defArgs s_is_whole) (defBody s_is_whole) (defScope s_is_whole) (.ref T14) kV14 dc14 pm14 an14 cd14 ct14), sl14⟩) (t14 : K.lookup T14 = some ⟨tc14, td14, .seq #[.none, .none] tn14, ts14⟩) (e14 : PySem.W.codeIn K cd14 "is_whole" = true) (k14 : PySem.W.keepIn K (.ref f14) = true)
    (a15 : PySem.W.nsIn K mainGlobals "is_sequence" = some (some (.ref f15))) (l15 : K.lookup f15 = some ⟨oc15, od15, .func (PySem.W.fnOf "is_sequence" "is_sequence" (defArgs s_is_sequence) (defBody s_is_sequence) (defScope s_is_sequence) .none kV15 dc15 pm15 an15 cd15 ct15), sl15⟩) (e15 : PySem.W.codeIn K cd15 "is_sequence" = true) (k15 : PySem.W.keepIn K (.ref f15) = true)
    (a16 : PySem.W.nsIn K mainGlobals "is_digit_row" = some (some (.ref f16))) (l16 : K.lookup f16 = some ⟨oc16, od16, .func (PySem.W.fnOf "is_digit_row" "is_digit_row" (defArgs s_is_digit_row) (defBody s_is_digit_row) (defScope s_is_digit_row) .none kV16 dc16 pm16 an16 cd16 ct16), sl16⟩) (e16 : PySem.W.codeIn K cd16 "is_digit_row" = true) (k16 : PySem.W.keepIn K (.ref f16) = true)
    (a17 : PySem.W.nsIn K mainGlobals "power_of" = some (some (.ref f17))) (l17 : K.lookup f17 = some ⟨oc17, od17, .func (PySem.W.fnOf "power_of" "power_of" (defArgs s_power_of) (defBody s_power_of) (defScope s_power_of) .none kV17 dc17 pm17 an17 cd17 ct17), sl17⟩) (e17 : PySem.W.codeIn K cd17 "power_of" = true) (k17 : PySem.W.keepIn K (.ref f17) = true)
    (a18 : PySem.W.nsIn K mainGlobals "base_digits" = some (some (.ref f18))) (l18 : K.lookup f18 = some ⟨oc18, od18, .func (PySem.W.fnOf "base_digits" "base_digits" (defArgs s_base_digits) (defBody s_base_digits) (defScope s_base_digits) .none kV18 dc18 pm18 an18 cd18 ct18), sl18⟩) (e18 : PySem.W.codeIn K cd18 "base_digits" = true) (k18 : PySem.W.keepIn K (.ref f18) = true)
    (a19 : PySem.W.nsIn K mainGlobals "rest_by_monic" = some (some (.ref f19))) (l19 : K.lookup f19 = some ⟨oc19, od19, .func (PySem.W.fnOf "rest_by_monic" "rest_by_monic" (defArgs s_rest_by_monic) (defBody s_rest_by_monic) (defScope s_rest_by_monic) .none kV19 dc19 pm19 an19 cd19 ct19), sl19⟩) (e19 : PySem.W.codeIn K cd19 "rest_by_monic" = true) (k19 : PySem.W.keepIn K (.ref f19) = true)
    (a20 : PySem.W.nsIn K mainGlobals "has_divisor" = some (some (.ref f20))) (l20 : K.lookup f20 = some ⟨oc20, od20, .func (PySem.W.fnOf "has_divisor" "has_divisor" (defArgs s_has_divisor) (defBody s_has_divisor) (defScope s_has_divisor) .none kV20 dc20 pm20 an20 cd20 ct20), sl20⟩) (e20 : PySem.W.codeIn K cd20 "has_divisor" = true) (k20 : PySem.W.keepIn K (.ref f20) = true)
    (a21 : PySem.W.nsIn K mainGlobals "field_fault" = some (some (.ref f21))) (l21 : K.lookup f21 = some ⟨oc21, od21, .func (PySem.W.fnOf "field_fault" "field_fault" (defArgs s_field_fault) (defBody s_field_fault) (defScope s_field_fault) .none kV21 dc21 pm21 an21 cd21 ct21), sl21⟩) (e21 : PySem.W.codeIn K cd21 "field_fault" = true) (k21 : PySem.W.keepIn K (.ref f21) = true)
    (a22 : PySem.W.nsIn K mainGlobals "digits_value" = some (some (.ref f22))) (l22 : K.lookup f22 = some ⟨oc22, od22, .func (PySem.W.fnOf "digits_value" "digits_value" (defArgs s_digits_value) (defBody s_digits_value) (defScope s_digits_value) .none kV22 dc22 pm22 an22 cd22 ct22), sl22⟩) (e22 : PySem.W.codeIn K cd22 "digits_value" = true) (k22 : PySem.W.keepIn K (.ref f22) = true)
    (a23 : PySem.W.nsIn K mainGlobals "sums_of" = some (some (.ref f23))) (l23 : K.lookup f23 = some ⟨oc23, od23, .func (PySem.W.fnOf "sums_of" "sums_of" (defArgs s_sums_of) (defBody s_sums_of) (defScope s_sums_of) .none kV23 dc23 pm23 an23 cd23 ct23), sl23⟩) (e23 : PySem.W.codeIn K cd23 "sums_of" = true) (k23 : PySem.W.keepIn K (.ref f23) = true)
    (a24 : PySem.W.nsIn K mainGlobals "products_of" = some (some (.ref f24))) (l24 : K.lookup f24 = some ⟨oc24, od24, .func (PySem.W.fnOf "products_of" "products_of" (defArgs s_products_of) (defBody s_products_of) (defScope s_products_of) .none kV24 dc24 pm24 an24 cd24 ct24), sl24⟩) (e24 : PySem.W.codeIn K cd24 "products_of" = true) (k24 : PySem.W.keepIn K (.ref f24) = true)
    (a25 : PySem.W.findIn K (.ref C0) "raised" = some (some (.ref f25))) (l25 : K.lookup f25 = some ⟨oc25, od25, .func (PySem.W.fnOf "raised" "Field.raised" (defArgs s_Field_raised) (defBody s_Field_raised) (defScope s_Field_raised) .none kV25 dc25 pm25 an25 cd25 ct25), sl25⟩) (e25 : PySem.W.codeIn K cd25 "Field.raised" = true) (k25 : PySem.W.keepIn K (.ref f25) = true)
    (n25 : PySem.W.isFn K (.ref f25) = true)
    (a26 : PySem.W.findIn K (.ref C0) "__init__" = some (some (.ref f26))) (l26 : K.lookup f26 = some ⟨oc26, od26, .func (PySem.W.fnOf "__init__" "Field.__init__" (defArgs s_Field___init__) (defBody s_Field___init__) (defScope s_Field___init__) .none kV26 dc26 pm26 an26 cd26 ct26), sl26⟩) (e26 : PySem.W.codeIn K cd26 "Field.__init__" = true) (k26 : PySem.W.keepIn K (.ref f26) = true)
    (n26 : PySem.W.isFn K (.ref f26) = true)
    (mk26 : mkB K C0 f26 = true)
    (a27 : PySem.W.nsIn K mainGlobals "_law_told" = some (some (.ref f27))) (l27 : K.lookup f27 = some ⟨oc27, od27, .func (PySem.W.fnOf "_law_told" "_law_told" (defArgs s__law_told) (defBody s__law_told) (defScope s__law_told) .none kV27 dc27 pm27 an27 cd27 ct27), sl27⟩) (e27 : PySem.W.codeIn K cd27 "_law_told" = true) (k27 : PySem.W.keepIn K (.ref f27) = true)
    (a28 : PySem.W.findIn K (.ref C0) "__eq__" = some (some (.ref f28))) (l28 : K.lookup f28 = some ⟨oc28, od28, .func (PySem.W.fnOf "__eq__" "Field.__eq__" (defArgs s_Field___eq__) (defBody s_Field___eq__) (defScope s_Field___eq__) .none kV28 dc28 pm28 an28 cd28 ct28), sl28⟩) (e28 : PySem.W.codeIn K cd28 "Field.__eq__" = true) (k28 : PySem.W.keepIn K (.ref f28) = true)
    (n28 : PySem.W.isFn K (.ref f28) = true)
    (a29 : PySem.W.nsIn K mainGlobals "law" = some (some (.ref f29))) (l29 : K.lookup f29 = some ⟨oc29, od29, .func (PySem.W.fnOf "law" "law" (defArgs s_law) (defBody s_law) (defScope s_law) .none kV29 dc29 pm29 an29 cd29 ct29), sl29⟩) (e29 : PySem.W.codeIn K cd29 "law" = true) (k29 : PySem.W.keepIn K (.ref f29) = true)
    (rR : rbB K C2 = true) (cR : PySem.W.findCls K (.ref C2) (.type "type") "__init__" = some (.val (.builtin "ValueError.__init__")))
    (iI1 : PySem.W.findIn K (.ref C1) "__init__" = some (some (.ref fI1))) (lI1 : K.lookup fI1 = some ⟨ocI1, odI1, .func (PySem.W.fnOf "__init__" "BadField.__init__" (defArgs sI_BadField) (defBody sI_BadField) (defScope sI_BadField) .none kVI1 dcI1 pmI1 anI1 cdI1 ctI1), slI1⟩) (eI1 : PySem.W.codeIn K cdI1 "BadField.__init__" = true) (kI1 : PySem.W.keepIn K (.ref fI1) = true) (xI1 : ecB K C1 fI1 ["what"] = true)
    (y_BadField_BadField : PySem.W.exmOne K (.ref C1) (.ref C1) = some true)
    (u_0 : PySem.W.kitOne K (.ref C0) (.type "list") = some false)
    (u_1 : PySem.W.kitOne K (.ref C0) (.type "tuple") = some false)
    (u_2 : PySem.W.kitOne K (.ref C0) (.type "int") = some false)
    (u_3 : PySem.W.kitOne K (.ref C0) (.type "bool") = some false)
    (u_4 : PySem.W.kitOne K (.ref C0) (.ref C0) = some true)
    (u_5 : PySem.W.kitOne K (.type "NoneType") (.ref C0) = some false)
    (u_6 : PySem.W.kitOne K (.type "bool") (.ref C0) = some false)
    (u_7 : PySem.W.kitOne K (.type "int") (.ref C0) = some false)
    (u_8 : PySem.W.kitOne K (.type "str") (.ref C0) = some false)
    (u_9 : PySem.W.kitOne K (.type "list") (.ref C0) = some false)
    (u_10 : PySem.W.kitOne K (.type "tuple") (.ref C0) = some false)
    (u_11 : PySem.W.kitOne K (.type "dict") (.ref C0) = some false)
    (v_0 : PySem.W.kitOne K (.ref C1) (.ref C2) = some true)
    (v_1 : PySem.W.kitOne K (.ref C1) (.type "ValueError") = some true)
    (v_2 : PySem.W.kitOne K (.ref C1) (.ref C3) = some false)
    (w_1 : excB K C1 = true)
    (z_ValueError : PySem.W.nsIn K mainGlobals "ValueError" = some none)
    (z_abs : PySem.W.nsIn K mainGlobals "abs" = some none)
    (z_all : PySem.W.nsIn K mainGlobals "all" = some none)
    (z_any : PySem.W.nsIn K mainGlobals "any" = some none)
    (z_bool : PySem.W.nsIn K mainGlobals "bool" = some none)
    (z_int : PySem.W.nsIn K mainGlobals "int" = some none)
    (z_isinstance : PySem.W.nsIn K mainGlobals "isinstance" = some none)
    (z_len : PySem.W.nsIn K mainGlobals "len" = some none)
    (z_list : PySem.W.nsIn K mainGlobals "list" = some none)
    (z_range : PySem.W.nsIn K mainGlobals "range" = some none)
    (z_reversed : PySem.W.nsIn K mainGlobals "reversed" = some none)
    (z_tuple : PySem.W.nsIn K mainGlobals "tuple" = some none)
    (z_zip : PySem.W.nsIn K mainGlobals "zip" = some none) :
    ∃ fd : FuncData, (∀ (s : Shared) (v : Value), BindsTo s fd ⟨[v], []⟩ [("_law_script", v)]) ∧ ∀ base : Heap, K.In base → base.Ns mainGlobals mg → FnOk P w K mg base (L2.CX P w) 7 fa fd ["_law_script"] (spL K F_law) := by
  have e := hfa.symm.trans (PySem.W.mg_of X G a29)
  cases e
  have B : Blt mg := ⟨PySem.W.mg_none_of X G z_ValueError, PySem.W.mg_none_of X G z_abs, PySem.W.mg_none_of X G z_all, PySem.W.mg_none_of X G z_any, PySem.W.mg_none_of X G z_bool, PySem.W.mg_none_of X G z_int, PySem.W.mg_none_of X G z_isinstance, PySem.W.mg_none_of X G z_len, PySem.W.mg_none_of X G z_list, PySem.W.mg_none_of X G z_range, PySem.W.mg_none_of X G z_reversed, PySem.W.mg_none_of X G z_tuple, PySem.W.mg_none_of X G z_zip⟩
  have F0 := fun_mk (st := s__law_hand) l0 e0 k0
  have F1 := fun_mk (st := s__law_mixed) l1 e1 k1
  have F2 := fun_mk (st := s__law_take) l2 e2 k2
  have F3 := fun_mk (st := s__law_moduli) l3 e3 k3
  have F4 := fun_mk (st := s__law_figure) l4 e4 k4
  have F5 := fun_mk (st := s__law_spoiled) l5 e5 k5
  have F6 := fun_mk (st := s__law_free) l6 e6 k6
  have F7 := fun_mk (st := s__law_drawn) l7 e7 k7
  have F8 := fun_mk (st := s__law_whole) l8 e8 k8
  have F9 := fun_mk (st := s__law_power) l9 e9 k9
  have F10 := fun_mk (st := s__law_digits) l10 e10 k10
  have F11 := fun_mk (st := s__law_product) l11 e11 k11
  have F12 := fun_mk (st := s__law_parted) l12 e12 k12
  have F13 := fun_mk (st := s__law_due) l13 e13 k13
  have F14 := funD_mk (st := s_is_whole) (dvs := [.non, .non]) (its := [.none, .none]) l14 e14 k14 t14 (by simp) (.cons rfl (.cons rfl (.nil)))
  have F15 := fun_mk (st := s_is_sequence) l15 e15 k15
  have F16 := fun_mk (st := s_is_digit_row) l16 e16 k16
  have F17 := fun_mk (st := s_power_of) l17 e17 k17
  have F18 := fun_mk (st := s_base_digits) l18 e18 k18
  have F19 := fun_mk (st := s_rest_by_monic) l19 e19 k19
  have F20 := fun_mk (st := s_has_divisor) l20 e20 k20
  have F21 := fun_mk (st := s_field_fault) l21 e21 k21
  have F22 := fun_mk (st := s_digits_value) l22 e22 k22
  have F23 := fun_mk (st := s_sums_of) l23 e23 k23
  have F24 := fun_mk (st := s_products_of) l24 e24 k24
  have F25 := fun_mk (st := s_Field_raised) l25 e25 k25
  have F26 := fun_mk (st := s_Field___init__) l26 e26 k26
  have F27 := fun_mk (st := s__law_told) l27 e27 k27
  have F28 := fun_mk (st := s_Field___eq__) l28 e28 k28
  have F29 := fun_mk (st := s_law) l29 e29 k29
  refine ⟨PySem.W.fnOf "law" "law" (defArgs s_law) (defBody s_law) (defScope s_law) .none kV29 dc29 pm29 an29 cd29 ct29, fun s v => .of_eq rfl, fun base _ _ => ?_⟩
  have BR : RB K C2 := rbB_ok rR cR
  have hR : mg "RankError" = some (.ref C2) := PySem.W.mg_of X G aC2
  have EI1 := ecB_ok xI1
  have FI1 := fun_mk (st := sI_BadField) lI1 eI1 kI1
  have e_BadField : EC P w K mg base (fun i => [C0, C1, C2, C3].getD i 0) "BadField" cl_BadField 1 ["what"] := ⟨_, _, _, EI1.o, EI1.i, EI1.t, okI_BadField BR hR EI1 FI1, FI1.binds (ps := ["self", "what"]) fun _ _ _ _ _ _ us hl => match us, hl with | [_, _], _ => rfl, PySem.W.mg_of X G aC1⟩
  have cok_Field := clB_ok clC0
  have Z : Exs P w K mg base (fun i => [C0, C1, C2, C3].getD i 0) := ⟨subOf_ok (List.forall_mem_cons.mpr ⟨fun _ h => by cases h; exact y_BadField_BadField, fun _ h => nomatch h⟩), PySem.W.mg_of X G aC0, PySem.W.mg_of X G aC1, PySem.W.mg_of X G aC2, PySem.W.mg_of X G aC3, e_BadField, List.forall_mem_cons.mpr ⟨⟨EI1.x, EI1.n _ (by simp)⟩, fun _ h => nomatch h⟩, ⟨List.forall_mem_cons.mpr ⟨⟨cok_Field.1, cok_Field.2 _ (by simp)⟩, fun _ h => nomatch h⟩⟩, ⟨List.forall_mem_cons.mpr ⟨⟨cok_Field.1, cok_Field.2 _ (by simp)⟩, fun _ h => nomatch h⟩⟩, ⟨List.forall_mem_cons.mpr ⟨⟨cok_Field.1, cok_Field.2 _ (by simp)⟩, fun _ h => nomatch h⟩⟩, ⟨List.forall_mem_cons.mpr ⟨⟨cok_Field.1, cok_Field.2 _ (by simp)⟩, fun _ h => nomatch h⟩⟩, ⟨List.forall_mem_cons.mpr ⟨⟨cok_Field.1, cok_Field.2 _ (by simp)⟩, fun _ h => nomatch h⟩⟩, ⟨List.forall_mem_cons.mpr ⟨⟨cok_Field.1, cok_Field.2 _ (by simp)⟩, fun _ h => nomatch h⟩⟩, ⟨List.forall_mem_cons.mpr ⟨⟨cok_Field.1, cok_Field.2 _ (by simp)⟩, fun _ h => nomatch h⟩⟩, ⟨List.forall_mem_cons.mpr ⟨⟨cok_Field.1, cok_Field.2 _ (by simp)⟩, fun _ h => nomatch h⟩⟩, ⟨List.forall_mem_cons.mpr ⟨⟨cok_Field.1, cok_Field.2 _ (by simp)⟩, fun _ h => nomatch h⟩⟩, ⟨List.forall_mem_cons.mpr ⟨⟨cok_Field.1, cok_Field.2 _ (by simp)⟩, fun _ h => nomatch h⟩⟩, subC_ok (List.forall_mem_cons.mpr ⟨u_0, List.forall_mem_cons.mpr ⟨u_1, List.forall_mem_cons.mpr ⟨u_2, List.forall_mem_cons.mpr ⟨u_3, List.forall_mem_cons.mpr ⟨u_4, List.forall_mem_cons.mpr ⟨u_5, List.forall_mem_cons.mpr ⟨u_6, List.forall_mem_cons.mpr ⟨u_7, List.forall_mem_cons.mpr ⟨u_8, List.forall_mem_cons.mpr ⟨u_9, List.forall_mem_cons.mpr ⟨u_10, List.forall_mem_cons.mpr ⟨u_11, fun _ h => nomatch h⟩⟩⟩⟩⟩⟩⟩⟩⟩⟩⟩⟩) (List.forall_mem_cons.mpr ⟨ifB_ok cok_Field.1 ifC0, fun _ h => nomatch h⟩), subX_ok (List.forall_mem_cons.mpr ⟨v_0, List.forall_mem_cons.mpr ⟨v_1, List.forall_mem_cons.mpr ⟨v_2, fun _ h => nomatch h⟩⟩⟩) (List.forall_mem_cons.mpr ⟨fun _ h => by cases h; exact excB_ok w_1, List.forall_mem_cons.mpr ⟨fun _ h => by cases h; exact excB_ok w_1, List.forall_mem_cons.mpr ⟨fun _ h => by cases h; exact excB_ok w_1, fun _ h => nomatch h⟩⟩⟩)⟩
  have c__law_hand : CF P w K mg base (fun i => [C0, C1, C2, C3].getD i 0) "_law_hand" 1 ["_law_script"] F__law_hand := ⟨_, _, ok__law_hand (cm := (fun i => [C0, C1, C2, C3].getD i 0)) B Z  F0, PySem.W.mg_of X G a0, F0.kp, F0.binds (ps := ["_law_script"]) fun _ _ _ _ _ _ us hl => match us, hl with | [_], _ => rfl⟩
  have c__law_mixed : CF P w K mg base (fun i => [C0, C1, C2, C3].getD i 0) "_law_mixed" 1 ["_law_number", "_law_turn"] F__law_mixed := ⟨_, _, ok__law_mixed (cm := (fun i => [C0, C1, C2, C3].getD i 0)) B Z  F1, PySem.W.mg_of X G a1, F1.kp, F1.binds (ps := ["_law_number", "_law_turn"]) fun _ _ _ _ _ _ us hl => match us, hl with | [_, _], _ => rfl⟩
  have c__law_take : CIO P w K mg base (fun i => [C0, C1, C2, C3].getD i 0) "_law_take" 2 ["_law_hand_here", "_law_many"] F__law_take := ⟨_, _, ok__law_take (cm := (fun i => [C0, C1, C2, C3].getD i 0)) B Z c__law_mixed F2, PySem.W.mg_of X G a2, F2.kp, F2.binds (ps := ["_law_hand_here", "_law_many"]) fun _ _ _ _ _ _ us hl => match us, hl with | [_, _], _ => rfl⟩
  have c__law_moduli : CF P w K mg base (fun i => [C0, C1, C2, C3].getD i 0) "_law_moduli" 1 ["_law_prime", "_law_degree"] F__law_moduli := ⟨_, _, ok__law_moduli (cm := (fun i => [C0, C1, C2, C3].getD i 0)) B Z  F3, PySem.W.mg_of X G a3, F3.kp, F3.binds (ps := ["_law_prime", "_law_degree"]) fun _ _ _ _ _ _ us hl => match us, hl with | [_, _], _ => rfl⟩
  have c__law_figure : CIO P w K mg base (fun i => [C0, C1, C2, C3].getD i 0) "_law_figure" 3 ["_law_hand_here", "_law_most"] F__law_figure := ⟨_, _, ok__law_figure (cm := (fun i => [C0, C1, C2, C3].getD i 0)) B Z c__law_take c__law_moduli F4, PySem.W.mg_of X G a4, F4.kp, F4.binds (ps := ["_law_hand_here", "_law_most"]) fun _ _ _ _ _ _ us hl => match us, hl with | [_, _], _ => rfl⟩
  have c__law_spoiled : CIO P w K mg base (fun i => [C0, C1, C2, C3].getD i 0) "_law_spoiled" 3 ["_law_hand_here", "_law_prime", "_law_modulus"] F__law_spoiled := ⟨_, _, ok__law_spoiled (cm := (fun i => [C0, C1, C2, C3].getD i 0)) B Z c__law_take F5, PySem.W.mg_of X G a5, F5.kp, F5.binds (ps := ["_law_hand_here", "_law_prime", "_law_modulus"]) fun _ _ _ _ _ _ us hl => match us, hl with | [_, _, _], _ => rfl⟩
  have c__law_free : CIO P w K mg base (fun i => [C0, C1, C2, C3].getD i 0) "_law_free" 3 ["_law_hand_here", "_law_prime"] F__law_free := ⟨_, _, ok__law_free (cm := (fun i => [C0, C1, C2, C3].getD i 0)) B Z c__law_take F6, PySem.W.mg_of X G a6, F6.kp, F6.binds (ps := ["_law_hand_here", "_law_prime"]) fun _ _ _ _ _ _ us hl => match us, hl with | [_, _], _ => rfl⟩
  have c__law_drawn : CIO P w K mg base (fun i => [C0, C1, C2, C3].getD i 0) "_law_drawn" 4 ["_law_hand_here"] F__law_drawn := ⟨_, _, ok__law_drawn (cm := (fun i => [C0, C1, C2, C3].getD i 0)) B Z c__law_figure c__law_take c__law_spoiled c__law_free F7, PySem.W.mg_of X G a7, F7.kp, F7.binds (ps := ["_law_hand_here"]) fun _ _ _ _ _ _ us hl => match us, hl with | [_], _ => rfl⟩
  have c__law_whole : CF P w K mg base (fun i => [C0, C1, C2, C3].getD i 0) "_law_whole" 1 ["_law_thing"] F__law_whole := ⟨_, _, ok__law_whole (cm := (fun i => [C0, C1, C2, C3].getD i 0)) B Z  F8, PySem.W.mg_of X G a8, F8.kp, F8.binds (ps := ["_law_thing"]) fun _ _ _ _ _ _ us hl => match us, hl with | [_], _ => rfl⟩
  have c__law_power : CF P w K mg base (fun i => [C0, C1, C2, C3].getD i 0) "_law_power" 1 ["_law_base", "_law_exponent"] F__law_power := ⟨_, _, ok__law_power (cm := (fun i => [C0, C1, C2, C3].getD i 0)) B Z  F9, PySem.W.mg_of X G a9, F9.kp, F9.binds (ps := ["_law_base", "_law_exponent"]) fun _ _ _ _ _ _ us hl => match us, hl with | [_, _], _ => rfl⟩
  have c__law_digits : CF P w K mg base (fun i => [C0, C1, C2, C3].getD i 0) "_law_digits" 1 ["_law_q", "_law_many", "_law_number"] F__law_digits := ⟨_, _, ok__law_digits (cm := (fun i => [C0, C1, C2, C3].getD i 0)) B Z  F10, PySem.W.mg_of X G a10, F10.kp, F10.binds (ps := ["_law_q", "_law_many", "_law_number"]) fun _ _ _ _ _ _ us hl => match us, hl with | [_, _, _], _ => rfl⟩
  have c__law_product : CF P w K mg base (fun i => [C0, C1, C2, C3].getD i 0) "_law_product" 1 ["_law_q", "_law_one", "_law_other"] F__law_product := ⟨_, _, ok__law_product (cm := (fun i => [C0, C1, C2, C3].getD i 0)) B Z  F11, PySem.W.mg_of X G a11, F11.kp, F11.binds (ps := ["_law_q", "_law_one", "_law_other"]) fun _ _ _ _ _ _ us hl => match us, hl with | [_, _, _], _ => rfl⟩
  have c__law_parted : CF P w K mg base (fun i => [C0, C1, C2, C3].getD i 0) "_law_parted" 2 ["_law_q", "_law_modulus"] F__law_parted := ⟨_, _, ok__law_parted (cm := (fun i => [C0, C1, C2, C3].getD i 0)) B Z c__law_power c__law_digits c__law_product F12, PySem.W.mg_of X G a12, F12.kp, F12.binds (ps := ["_law_q", "_law_modulus"]) fun _ _ _ _ _ _ us hl => match us, hl with | [_, _], _ => rfl⟩
  have c__law_due : CF P w K mg base (fun i => [C0, C1, C2, C3].getD i 0) "_law_due" 3 ["_law_prime", "_law_modulus"] F__law_due := ⟨_, _, ok__law_due (cm := (fun i => [C0, C1, C2, C3].getD i 0)) B Z c__law_whole c__law_parted F13, PySem.W.mg_of X G a13, F13.kp, F13.binds (ps := ["_law_prime", "_law_modulus"]) fun _ _ _ _ _ _ us hl => match us, hl with | [_, _], _ => rfl⟩
  have c_is_whole_3 : CF P w K mg base (fun i => [C0, C1, C2, C3].getD i 0) "is_whole" 1 ["thing", "low", "high"] F_is_whole := cf_mk (ok_is_whole (cm := (fun i => [C0, C1, C2, C3].getD i 0)) B Z  F14) (PySem.W.mg_of X G a14) F14.kp (F14.binds1 (ps := ["thing", "low", "high"]) 3 2 (by simp) rfl fun _ _ _ _ _ _ _ us its hl hi => match us, its, hl, hi with | [_, _, _], [_, _], _, _ => ⟨_, rfl, rfl⟩)
  have c_is_sequence : CF P w K mg base (fun i => [C0, C1, C2, C3].getD i 0) "is_sequence" 1 ["thing"] F_is_sequence := ⟨_, _, ok_is_sequence (cm := (fun i => [C0, C1, C2, C3].getD i 0)) B Z  F15, PySem.W.mg_of X G a15, F15.kp, F15.binds (ps := ["thing"]) fun _ _ _ _ _ _ us hl => match us, hl with | [_], _ => rfl⟩
  have c_is_digit_row : CF P w K mg base (fun i => [C0, C1, C2, C3].getD i 0) "is_digit_row" 2 ["prime", "width", "thing"] F_is_digit_row := ⟨_, _, ok_is_digit_row (cm := (fun i => [C0, C1, C2, C3].getD i 0)) B Z c_is_sequence c_is_whole_3 F16, PySem.W.mg_of X G a16, F16.kp, F16.binds (ps := ["prime", "width", "thing"]) fun _ _ _ _ _ _ us hl => match us, hl with | [_, _, _], _ => rfl⟩
  have c_power_of : CF P w K mg base (fun i => [C0, C1, C2, C3].getD i 0) "power_of" 1 ["base", "exponent"] F_power_of := ⟨_, _, ok_power_of (cm := (fun i => [C0, C1, C2, C3].getD i 0)) B Z  F17, PySem.W.mg_of X G a17, F17.kp, F17.binds (ps := ["base", "exponent"]) fun _ _ _ _ _ _ us hl => match us, hl with | [_, _], _ => rfl⟩
  have c_base_digits : CF P w K mg base (fun i => [C0, C1, C2, C3].getD i 0) "base_digits" 1 ["prime", "many", "number"] F_base_digits := ⟨_, _, ok_base_digits (cm := (fun i => [C0, C1, C2, C3].getD i 0)) B Z  F18, PySem.W.mg_of X G a18, F18.kp, F18.binds (ps := ["prime", "many", "number"]) fun _ _ _ _ _ _ us hl => match us, hl with | [_, _, _], _ => rfl⟩
  have c_rest_by_monic : CF P w K mg base (fun i => [C0, C1, C2, C3].getD i 0) "rest_by_monic" 1 ["prime", "digits", "divisor"] F_rest_by_monic := ⟨_, _, ok_rest_by_monic (cm := (fun i => [C0, C1, C2, C3].getD i 0)) B Z  F19, PySem.W.mg_of X G a19, F19.kp, F19.binds (ps := ["prime", "digits", "divisor"]) fun _ _ _ _ _ _ us hl => match us, hl with | [_, _, _], _ => rfl⟩
  have c_has_divisor : CF P w K mg base (fun i => [C0, C1, C2, C3].getD i 0) "has_divisor" 2 ["prime", "modulus"] F_has_divisor := ⟨_, _, ok_has_divisor (cm := (fun i => [C0, C1, C2, C3].getD i 0)) B Z c_power_of c_base_digits c_rest_by_monic F20, PySem.W.mg_of X G a20, F20.kp, F20.binds (ps := ["prime", "modulus"]) fun _ _ _ _ _ _ us hl => match us, hl with | [_, _], _ => rfl⟩
  have c_field_fault : CF P w K mg base (fun i => [C0, C1, C2, C3].getD i 0) "field_fault" 3 ["prime", "modulus"] F_field_fault := ⟨_, _, ok_field_fault (cm := (fun i => [C0, C1, C2, C3].getD i 0)) B Z c_is_sequence c_is_digit_row c_power_of c_has_divisor c_is_whole_3 F21, PySem.W.mg_of X G a21, F21.kp, F21.binds (ps := ["prime", "modulus"]) fun _ _ _ _ _ _ us hl => match us, hl with | [_, _], _ => rfl⟩
  have c_digits_value : CF P w K mg base (fun i => [C0, C1, C2, C3].getD i 0) "digits_value" 1 ["prime", "digits"] F_digits_value := ⟨_, _, ok_digits_value (cm := (fun i => [C0, C1, C2, C3].getD i 0)) B Z  F22, PySem.W.mg_of X G a22, F22.kp, F22.binds (ps := ["prime", "digits"]) fun _ _ _ _ _ _ us hl => match us, hl with | [_, _], _ => rfl⟩
  have c_sums_of : CF P w K mg base (fun i => [C0, C1, C2, C3].getD i 0) "sums_of" 2 ["prime", "digit_rows"] F_sums_of := ⟨_, _, ok_sums_of (cm := (fun i => [C0, C1, C2, C3].getD i 0)) B Z c_digits_value F23, PySem.W.mg_of X G a23, F23.kp, F23.binds (ps := ["prime", "digit_rows"]) fun _ _ _ _ _ _ us hl => match us, hl with | [_, _], _ => rfl⟩
  have c_products_of : CF P w K mg base (fun i => [C0, C1, C2, C3].getD i 0) "products_of" 2 ["prime", "modulus", "digit_rows", "sum_rows"] F_products_of := ⟨_, _, ok_products_of (cm := (fun i => [C0, C1, C2, C3].getD i 0)) B Z c_digits_value c_rest_by_monic F24, PySem.W.mg_of X G a24, F24.kp, F24.binds (ps := ["prime", "modulus", "digit_rows", "sum_rows"]) fun _ _ _ _ _ _ us hl => match us, hl with | [_, _, _, _], _ => rfl⟩
  have o_Field_raised := @ok_Field_raised P w K mg base (fun i => [C0, C1, C2, C3].getD i 0) f25 _ B Z  F25
  have c_m_raised_Field : CM P w K mg base (fun i => [C0, C1, C2, C3].getD i 0) "raised" 1 1 t_m_raised_Field := ⟨by simp [t_m_raised_Field], List.forall_mem_cons.mpr ⟨⟨_, _, _, 1, by decide, rfl, o_Field_raised, cok_Field.1, me_ok a25 n25 k25, F25.binds (ps := ["self", "thing"]) fun _ _ _ _ _ _ us hl => match us, hl with | [_, _], _ => rfl⟩, fun _ h => nomatch h⟩⟩
  have o_Field___init__ := @ok_Field___init__ P w K mg base (fun i => [C0, C1, C2, C3].getD i 0) f26 _ B Z c_field_fault c_power_of c_base_digits c_sums_of c_products_of c_m_raised_Field F26
  have c_k_Field : CK P w K mg base (fun i => [C0, C1, C2, C3].getD i 0) "Field" cl_Field 4 2 F_Field___init__ := ⟨_, _, _, mkB_ok a26 mk26, rfl, o_Field___init__, F26.binds (ps := ["self", "prime", "modulus"]) fun _ _ _ _ _ _ us hl => match us, hl with | [_, _, _], _ => rfl, PySem.W.mg_of X G aC0⟩
  have c__law_told : CF P w K mg base (fun i => [C0, C1, C2, C3].getD i 0) "_law_told" 6 ["_law_prime", "_law_modulus"] F__law_told := ⟨_, _, ok__law_told (cm := (fun i => [C0, C1, C2, C3].getD i 0)) B Z c_k_Field c__law_whole c__law_power F27, PySem.W.mg_of X G a27, F27.kp, F27.binds (ps := ["_law_prime", "_law_modulus"]) fun _ _ _ _ _ _ us hl => match us, hl with | [_, _], _ => rfl⟩
  have o_Field___eq__ := @ok_Field___eq__ P w K mg base (fun i => [C0, C1, C2, C3].getD i 0) f28 _ B Z  F28
  have c_eq : CE P w K mg base (fun i => [C0, C1, C2, C3].getD i 0) 1 t_eq := ⟨List.forall_mem_cons.mpr ⟨⟨_, _, _, 1, by decide, o_Field___eq__, a28, n28, F28.binds (ps := ["self", "other"]) fun _ _ _ _ _ _ us hl => match us, hl with | [_, _], _ => rfl⟩, fun _ h => nomatch h⟩⟩
  exact fnOk_imp (ok_law (cm := (fun i => [C0, C1, C2, C3].getD i 0)) B Z c__law_hand c__law_drawn c__law_due c__law_told c_k_Field c_eq c__law_figure c__law_power F29) fun vs H Q E h => h _
end
--SIMP subE_BadField_BadField, in_xs_0_BadField, fc_modulus_Field, fc_size_Field, fc_prime_Field, fc_degree_Field, fc_digit_rows_Field, fc_sum_rows_Field, fc_product_rows_Field, fc_negatives_Field, fc_inverses_Field, fc_step_row_Field, subXs_BadField_RankError, subXs_BadField_ValueError, subXs_BadField_BadThing, tf_m_raised_Field_Field, tf_eq_Field
/-! ### the field's defs: digits -/
theorem small_ok {q : Nat} (h : q = 2 ∨ q = 3) : (0 : Int) < (q : Int) ∧ divOk (q : Int) = true := by
  rcases h with rfl | rfl <;> exact ⟨by decide, by decide⟩
/-- the lowest digits of t -/
def dg (q m t : Nat) : List Nat := (List.range m).map fun i => t / q ^ i % q
theorem dg_s (q m t : Nat) : dg q (m + 1) t = dg q m t ++ [t / q ^ m % q] := by unfold dg; rw [List.range_succ, List.map_append]; rfl
theorem dg_len (q m t : Nat) : (dg q m t).length = m := by unfold dg; simp
theorem dg_lt {q : Nat} (h : 0 < q) (m t : Nat) : ∀ d ∈ dg q m t, d < q := by
  intro d hd
  unfold dg at hd
  obtain ⟨i, _, rfl⟩ := List.mem_map.mp hd
  exact Nat.mod_lt _ h
theorem base_digits_eq {q m t : Nat} (h : q = 2 ∨ q = 3) (hm : m ≤ 1000) : F_base_digits [.int q, .int m, .int t] = .ok false (.tup (nums (dg q m t))) .non := by
  obtain ⟨q0, qd⟩ := small_ok h
  have L := loop_rng (g := gN 4) (junk := [4]) (body := L_base_digits_1) (fun k => [.sh (.int q), .sh (.int m), .sh (.int (t / q ^ k : Nat)), .ow (.lst (nums (dg q k t))), .no]) 0 m (fun k hk => by
    have hl : (nums (dg q k t)).length < lim := by rw [nums_len, dg_len]; unfold lim; omega
    have e1 : ((t / q ^ k : Nat) : Int) % (q : Int) = ((t / q ^ k % q : Nat) : Int) := rfl
    have e2 : ((t / q ^ k : Nat) : Int) / (q : Int) = ((t / q ^ (k + 1) : Nat) : Int) := by rw [Nat.pow_succ, ← Nat.div_div_eq_div_mul]; rfl
    rw [dg_s, nums_app]
    simp only [L_base_digits_1, bindR_ok, bindR_ex, a_bind, a_of_some, a_var, a_c, a_bin, a_un, a_test, a_tru, a_cmp, a_and, a_or, a_not, a_if, a_andV, a_orV, a_notV, a_bl, a_nil, a_cons, a_tup, a_lst, a_call, a_callF, a_callIO, a_seq, a_next, a_ret, a_retN, a_drop, a_break, a_cont, a_ifS, a_asg, a_asgG, a_app, a_setI, a_iter, a_rng, a_for, a_slice, a_part0, a_part1, a_lc, a_yes, l_val, l_new, l_slot, f_val, f_new, f_slot, t_val, t_new, t_slot, s_val, s_new, s_slot, a_look2, a_look1, a_fa0, a_fa1, a_la0, a_la1, a_fn1, a_fn2, a_gN, a_gs0, a_gs1, a_gT, a_turn, a_fg0, a_fg1, a_wp0, a_wp1, a_rs0, a_rs1, a_mkF, a_mkIO, a_owL, a_owD, a_tkT, a_tkF, a_apf, a_apb, a_apn, a_aps, e_addI, e_subI, e_mulI, e_divI, e_modI, e_negI, e_lt, e_le, e_gt, e_ge, e_is, e_isnot, a_lift, e_lenL, e_lenT, e_lenS, e_intI, e_intB, e_absI, e_truB, e_truI, e_truN, e_truL, e_truT, e_ixL, e_ixT, e_tupL, e_tupT, e_lstL, e_lstT, e_sum, cEq_int, cNe_int, fin_nx, fin_val, fin_new, fin_slot, fin_ex, finIO_nx, finIO_val, finIO_new, finIO_slot, finIO_ex, entry_eq, entryIO_eq, atI_0, atI_1, atI_2, atI_3, Option.map_some, List.set_cons_zero, List.set_cons_succ, List.getElem?_cons_zero, List.getElem?_cons_succ, List.getElem?_nil, List.getD_cons_zero, List.getD_cons_succ, List.map_cons, List.map_nil, List.length_cons, List.length_nil, List.length_map, List.replicate, List.cons_append, List.nil_append, Nat.reduceAdd, Nat.reduceSub, Nat.reduceLeDiff, Nat.reduceLT, Nat.zero_le, Int.reduceLT, Int.reduceLE, Int.reduceEq, Int.reduceNeg, if_true, if_false, Bool.false_eq_true, Bool.true_eq_false, reduceIte, Bool.or_true, Bool.true_or, Bool.false_or, Bool.or_false, Bool.and_true, Bool.and_false, Bool.true_and, Bool.false_and, Bool.not_true, Bool.not_false, decide_true, decide_false, decide_eq_true_eq, and_self, not_true_eq_false, not_false_eq_true, ite_self, a_try_ok, a_raise0, a_raise, a_h0, a_h1, a_en0, a_en1, a_se_nx, a_se_rt, a_lv0, a_lv1, a_un0, a_un1, a_cx0, a_cx1, a_cx2, a_cx3, a_xf, a_pad, a_walk, a_rev, a_par, a_chain, a_chainB, w_enum, w_zipL, w_zipT, e_max, e_min, e_and, e_sumA, e_sumAT, List.reverse_cons, List.reverse_nil, List.zip_cons_cons, List.zip_nil_left, List.zip_nil_right, a_mIndex, a_fld, a_callT, a_methD, a_make, a_val, a_newD, w_enumL, w_enumT, a_apT, a_apG, a_apL, e_ixG, e_tupF, a_no0, a_no1, e_sliceL, e_sliceT, a_ins, a_cat, e_revL, List.nil_append, List.reverse_nil, subE_BadField_BadField, in_xs_0_BadField, fc_modulus_Field, fc_size_Field, fc_prime_Field, fc_degree_Field, fc_digit_rows_Field, fc_sum_rows_Field, fc_product_rows_Field, fc_negatives_Field, fc_inverses_Field, fc_step_row_Field, subXs_BadField_RankError, subXs_BadField_ValueError, subXs_BadField_BadThing, tf_m_raised_Field_Field, tf_eq_Field, hl, e_modI q0, e_divI qd, e1, e2]
    rfl)
  have o1 : okR (m : Int) = true := okR_of (by omega)
  rw [Nat.pow_zero, Nat.div_one] at L
  rw [show nums (dg q 0 t) = [] from rfl] at L
  simp only [F_base_digits, B_base_digits, bindR_ok, bindR_ex, a_bind, a_of_some, a_var, a_c, a_bin, a_un, a_test, a_tru, a_cmp, a_and, a_or, a_not, a_if, a_andV, a_orV, a_notV, a_bl, a_nil, a_cons, a_tup, a_lst, a_call, a_callF, a_callIO, a_seq, a_next, a_ret, a_retN, a_drop, a_break, a_cont, a_ifS, a_asg, a_asgG, a_app, a_setI, a_iter, a_rng, a_for, a_slice, a_part0, a_part1, a_lc, a_yes, l_val, l_new, l_slot, f_val, f_new, f_slot, t_val, t_new, t_slot, s_val, s_new, s_slot, a_look2, a_look1, a_fa0, a_fa1, a_la0, a_la1, a_fn1, a_fn2, a_gN, a_gs0, a_gs1, a_gT, a_turn, a_fg0, a_fg1, a_wp0, a_wp1, a_rs0, a_rs1, a_mkF, a_mkIO, a_owL, a_owD, a_tkT, a_tkF, a_apf, a_apb, a_apn, a_aps, e_addI, e_subI, e_mulI, e_divI, e_modI, e_negI, e_lt, e_le, e_gt, e_ge, e_is, e_isnot, a_lift, e_lenL, e_lenT, e_lenS, e_intI, e_intB, e_absI, e_truB, e_truI, e_truN, e_truL, e_truT, e_ixL, e_ixT, e_tupL, e_tupT, e_lstL, e_lstT, e_sum, cEq_int, cNe_int, fin_nx, fin_val, fin_new, fin_slot, fin_ex, finIO_nx, finIO_val, finIO_new, finIO_slot, finIO_ex, entry_eq, entryIO_eq, atI_0, atI_1, atI_2, atI_3, Option.map_some, List.set_cons_zero, List.set_cons_succ, List.getElem?_cons_zero, List.getElem?_cons_succ, List.getElem?_nil, List.getD_cons_zero, List.getD_cons_succ, List.map_cons, List.map_nil, List.length_cons, List.length_nil, List.length_map, List.replicate, List.cons_append, List.nil_append, Nat.reduceAdd, Nat.reduceSub, Nat.reduceLeDiff, Nat.reduceLT, Nat.zero_le, Int.reduceLT, Int.reduceLE, Int.reduceEq, Int.reduceNeg, if_true, if_false, Bool.false_eq_true, Bool.true_eq_false, reduceIte, Bool.or_true, Bool.true_or, Bool.false_or, Bool.or_false, Bool.and_true, Bool.and_false, Bool.true_and, Bool.false_and, Bool.not_true, Bool.not_false, decide_true, decide_false, decide_eq_true_eq, and_self, not_true_eq_false, not_false_eq_true, ite_self, a_try_ok, a_raise0, a_raise, a_h0, a_h1, a_en0, a_en1, a_se_nx, a_se_rt, a_lv0, a_lv1, a_un0, a_un1, a_cx0, a_cx1, a_cx2, a_cx3, a_xf, a_pad, a_walk, a_rev, a_par, a_chain, a_chainB, w_enum, w_zipL, w_zipT, e_max, e_min, e_and, e_sumA, e_sumAT, List.reverse_cons, List.reverse_nil, List.zip_cons_cons, List.zip_nil_left, List.zip_nil_right, a_mIndex, a_fld, a_callT, a_methD, a_make, a_val, a_newD, w_enumL, w_enumT, a_apT, a_apG, a_apL, e_ixG, e_tupF, a_no0, a_no1, e_sliceL, e_sliceT, a_ins, a_cat, e_revL, List.nil_append, List.reverse_nil, subE_BadField_BadField, in_xs_0_BadField, fc_modulus_Field, fc_size_Field, fc_prime_Field, fc_degree_Field, fc_digit_rows_Field, fc_sum_rows_Field, fc_product_rows_Field, fc_negatives_Field, fc_inverses_Field, fc_step_row_Field, subXs_BadField_RankError, subXs_BadField_ValueError, subXs_BadField_BadThing, tf_m_raised_Field_Field, tf_eq_Field, o1, Int.toNat_natCast, L]
/-- the number with these digits -/
def dv (q : Nat) (ds : List Nat) : Nat := ds.foldr (fun d a => a * q + d) 0
theorem dv_nil (q : Nat) : dv q [] = 0 := rfl
theorem dv_cons (q d : Nat) (ds : List Nat) : dv q (d :: ds) = dv q ds * q + d := rfl
theorem dv_lt {q : Nat} : ∀ ds : List Nat, (∀ d ∈ ds, d < q) → dv q ds < q ^ ds.length
  | [], _ => by show (0 : Nat) < 1; decide
  | d :: ds, h => by
    have ih := dv_lt ds fun x hx => h x (List.mem_cons_of_mem _ hx)
    have hd := h d List.mem_cons_self
    rw [dv_cons, List.length_cons, Nat.pow_succ]
    have : (dv q ds + 1) * q ≤ q ^ ds.length * q := Nat.mul_le_mul_right q ih
    rw [Nat.add_mul] at this
    omega
theorem pow3 (k : Nat) : 3 ^ k ≤ 2 ^ (2 * k) := by rw [Nat.pow_mul]; exact Nat.pow_le_pow_left (by decide) k
theorem dv_w {q : Nat} (h : q = 2 ∨ q = 3) {ds : List Nat} (hd : ∀ d ∈ ds, d < q) (hl : ds.length ≤ 1000) : dv q ds < 2 ^ 2001 := by
  refine Nat.lt_of_lt_of_le (dv_lt ds hd) (Nat.le_trans (Nat.pow_le_pow_left (show q ≤ 3 by omega) _) (Nat.le_trans (pow3 _) (Nat.pow_le_pow_right (by decide) (by omega))))
theorem dv_rev (q : Nat) (ds : List Nat) : ds.reverse.foldl (fun a d => a * q + d) 0 = dv q ds := by unfold dv; rw [List.foldl_reverse]
theorem dv_loop {q : Nat} (h : q = 2 ∨ q = 3) (x : D) (ds : List Nat) (hd : ∀ d ∈ ds, d < q) (hl : ds.length ≤ 1000) :
    mLoop (gN 3) [3] L_digits_value_1 (nums ds).reverse [.sh (.int q), .sh x, .sh (.int 0), .no] = .ok .nx [.sh (.int q), .sh x, .sh (.int (dv q ds)), .no] := by
  have := loop_foldN (g := gN 3) (junk := [3]) (body := L_digits_value_1) (α := Nat) (S := Nat) (fun s => [.sh (.int q), .sh x, .sh (.int s), .no]) (fun a d => a * q + d) nI (fun k s => s < q ^ k) ds.reverse 0 0 (by show (0 : Nat) < 1; decide) (fun k s d hs hx => by
    rw [Nat.zero_add] at hs ⊢
    have hk : k < ds.reverse.length := (List.getElem?_eq_some_iff.mp hx).1
    rw [List.length_reverse] at hk
    have hq : d < q := hd d (List.mem_reverse.mp (List.mem_of_getElem? hx))
    have b1 : s < 2 ^ (2001 + 1) := Nat.lt_of_lt_of_le hs (Nat.le_trans (Nat.pow_le_pow_left (show q ≤ 3 by omega) _) (Nat.le_trans (pow3 _) (Nat.pow_le_pow_right (by decide) (by omega))))
    have m1 : mulOk (s : Int) (q : Int) = true := mulOk_le (a := 2001) (b := 2) (by rw [Int.natAbs_natCast]; exact b1) (by omega) (by omega)
    refine ⟨?_, ?_⟩
    · show turn _ _ _ (.int (d : Int)) _ = _
      simp only [L_digits_value_1, bindR_ok, bindR_ex, a_bind, a_of_some, a_var, a_c, a_bin, a_un, a_test, a_tru, a_cmp, a_and, a_or, a_not, a_if, a_andV, a_orV, a_notV, a_bl, a_nil, a_cons, a_tup, a_lst, a_call, a_callF, a_callIO, a_seq, a_next, a_ret, a_retN, a_drop, a_break, a_cont, a_ifS, a_asg, a_asgG, a_app, a_setI, a_iter, a_rng, a_for, a_slice, a_part0, a_part1, a_lc, a_yes, l_val, l_new, l_slot, f_val, f_new, f_slot, t_val, t_new, t_slot, s_val, s_new, s_slot, a_look2, a_look1, a_fa0, a_fa1, a_la0, a_la1, a_fn1, a_fn2, a_gN, a_gs0, a_gs1, a_gT, a_turn, a_fg0, a_fg1, a_wp0, a_wp1, a_rs0, a_rs1, a_mkF, a_mkIO, a_owL, a_owD, a_tkT, a_tkF, a_apf, a_apb, a_apn, a_aps, e_addI, e_subI, e_mulI, e_divI, e_modI, e_negI, e_lt, e_le, e_gt, e_ge, e_is, e_isnot, a_lift, e_lenL, e_lenT, e_lenS, e_intI, e_intB, e_absI, e_truB, e_truI, e_truN, e_truL, e_truT, e_ixL, e_ixT, e_tupL, e_tupT, e_lstL, e_lstT, e_sum, cEq_int, cNe_int, fin_nx, fin_val, fin_new, fin_slot, fin_ex, finIO_nx, finIO_val, finIO_new, finIO_slot, finIO_ex, entry_eq, entryIO_eq, atI_0, atI_1, atI_2, atI_3, Option.map_some, List.set_cons_zero, List.set_cons_succ, List.getElem?_cons_zero, List.getElem?_cons_succ, List.getElem?_nil, List.getD_cons_zero, List.getD_cons_succ, List.map_cons, List.map_nil, List.length_cons, List.length_nil, List.length_map, List.replicate, List.cons_append, List.nil_append, Nat.reduceAdd, Nat.reduceSub, Nat.reduceLeDiff, Nat.reduceLT, Nat.zero_le, Int.reduceLT, Int.reduceLE, Int.reduceEq, Int.reduceNeg, if_true, if_false, Bool.false_eq_true, Bool.true_eq_false, reduceIte, Bool.or_true, Bool.true_or, Bool.false_or, Bool.or_false, Bool.and_true, Bool.and_false, Bool.true_and, Bool.false_and, Bool.not_true, Bool.not_false, decide_true, decide_false, decide_eq_true_eq, and_self, not_true_eq_false, not_false_eq_true, ite_self, a_try_ok, a_raise0, a_raise, a_h0, a_h1, a_en0, a_en1, a_se_nx, a_se_rt, a_lv0, a_lv1, a_un0, a_un1, a_cx0, a_cx1, a_cx2, a_cx3, a_xf, a_pad, a_walk, a_rev, a_par, a_chain, a_chainB, w_enum, w_zipL, w_zipT, e_max, e_min, e_and, e_sumA, e_sumAT, List.reverse_cons, List.reverse_nil, List.zip_cons_cons, List.zip_nil_left, List.zip_nil_right, a_mIndex, a_fld, a_callT, a_methD, a_make, a_val, a_newD, w_enumL, w_enumT, a_apT, a_apG, a_apL, e_ixG, e_tupF, a_no0, a_no1, e_sliceL, e_sliceT, a_ins, a_cat, e_revL, List.nil_append, List.reverse_nil, subE_BadField_BadField, in_xs_0_BadField, fc_modulus_Field, fc_size_Field, fc_prime_Field, fc_degree_Field, fc_digit_rows_Field, fc_sum_rows_Field, fc_product_rows_Field, fc_negatives_Field, fc_inverses_Field, fc_step_row_Field, subXs_BadField_RankError, subXs_BadField_ValueError, subXs_BadField_BadThing, tf_m_raised_Field_Field, tf_eq_Field, e_mulI m1]
      rfl
    · rw [Nat.pow_succ]
      have : (s + 1) * q ≤ q ^ k * q := Nat.mul_le_mul_right q hs
      rw [Nat.add_mul] at this
      omega)
  rw [dv_rev] at this
  rw [nums_rev]
  exact this.1
theorem digits_value_L {q : Nat} (h : q = 2 ∨ q = 3) {ds : List Nat} (hd : ∀ d ∈ ds, d < q) (hl : ds.length ≤ 1000) : F_digits_value [.int q, .lst (nums ds)] = .ok false (.int (dv q ds)) .non := by
  have L := dv_loop h (.lst (nums ds)) ds hd hl
  simp only [F_digits_value, B_digits_value, bindR_ok, bindR_ex, a_bind, a_of_some, a_var, a_c, a_bin, a_un, a_test, a_tru, a_cmp, a_and, a_or, a_not, a_if, a_andV, a_orV, a_notV, a_bl, a_nil, a_cons, a_tup, a_lst, a_call, a_callF, a_callIO, a_seq, a_next, a_ret, a_retN, a_drop, a_break, a_cont, a_ifS, a_asg, a_asgG, a_app, a_setI, a_iter, a_rng, a_for, a_slice, a_part0, a_part1, a_lc, a_yes, l_val, l_new, l_slot, f_val, f_new, f_slot, t_val, t_new, t_slot, s_val, s_new, s_slot, a_look2, a_look1, a_fa0, a_fa1, a_la0, a_la1, a_fn1, a_fn2, a_gN, a_gs0, a_gs1, a_gT, a_turn, a_fg0, a_fg1, a_wp0, a_wp1, a_rs0, a_rs1, a_mkF, a_mkIO, a_owL, a_owD, a_tkT, a_tkF, a_apf, a_apb, a_apn, a_aps, e_addI, e_subI, e_mulI, e_divI, e_modI, e_negI, e_lt, e_le, e_gt, e_ge, e_is, e_isnot, a_lift, e_lenL, e_lenT, e_lenS, e_intI, e_intB, e_absI, e_truB, e_truI, e_truN, e_truL, e_truT, e_ixL, e_ixT, e_tupL, e_tupT, e_lstL, e_lstT, e_sum, cEq_int, cNe_int, fin_nx, fin_val, fin_new, fin_slot, fin_ex, finIO_nx, finIO_val, finIO_new, finIO_slot, finIO_ex, entry_eq, entryIO_eq, atI_0, atI_1, atI_2, atI_3, Option.map_some, List.set_cons_zero, List.set_cons_succ, List.getElem?_cons_zero, List.getElem?_cons_succ, List.getElem?_nil, List.getD_cons_zero, List.getD_cons_succ, List.map_cons, List.map_nil, List.length_cons, List.length_nil, List.length_map, List.replicate, List.cons_append, List.nil_append, Nat.reduceAdd, Nat.reduceSub, Nat.reduceLeDiff, Nat.reduceLT, Nat.zero_le, Int.reduceLT, Int.reduceLE, Int.reduceEq, Int.reduceNeg, if_true, if_false, Bool.false_eq_true, Bool.true_eq_false, reduceIte, Bool.or_true, Bool.true_or, Bool.false_or, Bool.or_false, Bool.and_true, Bool.and_false, Bool.true_and, Bool.false_and, Bool.not_true, Bool.not_false, decide_true, decide_false, decide_eq_true_eq, and_self, not_true_eq_false, not_false_eq_true, ite_self, a_try_ok, a_raise0, a_raise, a_h0, a_h1, a_en0, a_en1, a_se_nx, a_se_rt, a_lv0, a_lv1, a_un0, a_un1, a_cx0, a_cx1, a_cx2, a_cx3, a_xf, a_pad, a_walk, a_rev, a_par, a_chain, a_chainB, w_enum, w_zipL, w_zipT, e_max, e_min, e_and, e_sumA, e_sumAT, List.reverse_cons, List.reverse_nil, List.zip_cons_cons, List.zip_nil_left, List.zip_nil_right, a_mIndex, a_fld, a_callT, a_methD, a_make, a_val, a_newD, w_enumL, w_enumT, a_apT, a_apG, a_apL, e_ixG, e_tupF, a_no0, a_no1, e_sliceL, e_sliceT, a_ins, a_cat, e_revL, List.nil_append, List.reverse_nil, subE_BadField_BadField, in_xs_0_BadField, fc_modulus_Field, fc_size_Field, fc_prime_Field, fc_degree_Field, fc_digit_rows_Field, fc_sum_rows_Field, fc_product_rows_Field, fc_negatives_Field, fc_inverses_Field, fc_step_row_Field, subXs_BadField_RankError, subXs_BadField_ValueError, subXs_BadField_BadThing, tf_m_raised_Field_Field, tf_eq_Field, L]
theorem digits_value_T {q : Nat} (h : q = 2 ∨ q = 3) {ds : List Nat} (hd : ∀ d ∈ ds, d < q) (hl : ds.length ≤ 1000) : F_digits_value [.int q, .tup (nums ds)] = .ok false (.int (dv q ds)) .non := by
  have L := dv_loop h (.tup (nums ds)) ds hd hl
  simp only [F_digits_value, B_digits_value, bindR_ok, bindR_ex, a_bind, a_of_some, a_var, a_c, a_bin, a_un, a_test, a_tru, a_cmp, a_and, a_or, a_not, a_if, a_andV, a_orV, a_notV, a_bl, a_nil, a_cons, a_tup, a_lst, a_call, a_callF, a_callIO, a_seq, a_next, a_ret, a_retN, a_drop, a_break, a_cont, a_ifS, a_asg, a_asgG, a_app, a_setI, a_iter, a_rng, a_for, a_slice, a_part0, a_part1, a_lc, a_yes, l_val, l_new, l_slot, f_val, f_new, f_slot, t_val, t_new, t_slot, s_val, s_new, s_slot, a_look2, a_look1, a_fa0, a_fa1, a_la0, a_la1, a_fn1, a_fn2, a_gN, a_gs0, a_gs1, a_gT, a_turn, a_fg0, a_fg1, a_wp0, a_wp1, a_rs0, a_rs1, a_mkF, a_mkIO, a_owL, a_owD, a_tkT, a_tkF, a_apf, a_apb, a_apn, a_aps, e_addI, e_subI, e_mulI, e_divI, e_modI, e_negI, e_lt, e_le, e_gt, e_ge, e_is, e_isnot, a_lift, e_lenL, e_lenT, e_lenS, e_intI, e_intB, e_absI, e_truB, e_truI, e_truN, e_truL, e_truT, e_ixL, e_ixT, e_tupL, e_tupT, e_lstL, e_lstT, e_sum, cEq_int, cNe_int, fin_nx, fin_val, fin_new, fin_slot, fin_ex, finIO_nx, finIO_val, finIO_new, finIO_slot, finIO_ex, entry_eq, entryIO_eq, atI_0, atI_1, atI_2, atI_3, Option.map_some, List.set_cons_zero, List.set_cons_succ, List.getElem?_cons_zero, List.getElem?_cons_succ, List.getElem?_nil, List.getD_cons_zero, List.getD_cons_succ, List.map_cons, List.map_nil, List.length_cons, List.length_nil, List.length_map, List.replicate, List.cons_append, List.nil_append, Nat.reduceAdd, Nat.reduceSub, Nat.reduceLeDiff, Nat.reduceLT, Nat.zero_le, Int.reduceLT, Int.reduceLE, Int.reduceEq, Int.reduceNeg, if_true, if_false, Bool.false_eq_true, Bool.true_eq_false, reduceIte, Bool.or_true, Bool.true_or, Bool.false_or, Bool.or_false, Bool.and_true, Bool.and_false, Bool.true_and, Bool.false_and, Bool.not_true, Bool.not_false, decide_true, decide_false, decide_eq_true_eq, and_self, not_true_eq_false, not_false_eq_true, ite_self, a_try_ok, a_raise0, a_raise, a_h0, a_h1, a_en0, a_en1, a_se_nx, a_se_rt, a_lv0, a_lv1, a_un0, a_un1, a_cx0, a_cx1, a_cx2, a_cx3, a_xf, a_pad, a_walk, a_rev, a_par, a_chain, a_chainB, w_enum, w_zipL, w_zipT, e_max, e_min, e_and, e_sumA, e_sumAT, List.reverse_cons, List.reverse_nil, List.zip_cons_cons, List.zip_nil_left, List.zip_nil_right, a_mIndex, a_fld, a_callT, a_methD, a_make, a_val, a_newD, w_enumL, w_enumT, a_apT, a_apG, a_apL, e_ixG, e_tupF, a_no0, a_no1, e_sliceL, e_sliceT, a_ins, a_cat, e_revL, List.nil_append, List.reverse_nil, subE_BadField_BadField, in_xs_0_BadField, fc_modulus_Field, fc_size_Field, fc_prime_Field, fc_degree_Field, fc_digit_rows_Field, fc_sum_rows_Field, fc_product_rows_Field, fc_negatives_Field, fc_inverses_Field, fc_step_row_Field, subXs_BadField_RankError, subXs_BadField_ValueError, subXs_BadField_BadThing, tf_m_raised_Field_Field, tf_eq_Field, L]
/-! ### the rest of a polynomial of one more term -/
def rd1 (q lead a b : Nat) : Nat := (((a : Int) - (lead : Int) * (b : Int)) % (q : Int)).toNat
def redz (q lead : Nat) (l md : List Nat) : List Nat := List.zipWith (rd1 q lead) l md
theorem redz_len (q lead : Nat) (l md : List Nat) : (redz q lead l md).length = min l.length md.length := List.length_zipWith ..
theorem redz_at {q lead k : Nat} {l md : List Nat} {a b : Nat} (h1 : l[k]? = some a) (h2 : md[k]? = some b) : (redz q lead l md)[k]? = some (rd1 q lead a b) := by
  unfold redz
  rw [List.getElem?_zipWith, h1, h2]
/-- (0, l) less a multiple of the modulus -/
def redm (q : Nat) (md l : List Nat) : List Nat := (redz q (l.getLast?.getD 0) (0 :: l) md).take (md.length - 1)
theorem setI_at {xs : List D} {i : Nat} (h : i < xs.length) : ixN xs.length (i : Int) = some i := ixN_of h
theorem red_in {q : Nat} (h : q = 2 ∨ q = 3) (l md : List Nat) (hl : l.length = md.length) (h16 : l.length ≤ 16) (lead m : Nat) (x1 x2 : D) (hm : md.length = m + 1) (l1 : lead < q) (h1 : ∀ d ∈ md, d < q) :
    mLoop (gN 7) [7, 8] L_rest_by_monic_1 (rngD 0 (m + 1)) [.sh (.int q), .sh x1, .sh (.tup (nums md)), .ow (.lst (nums l)), .sh (.int m), .sh (.int m), .sh (.int lead), .no, .no] =
      .ok .nx [.sh (.int q), .sh x1, .sh (.tup (nums md)), .ow (.lst (nums (redz q lead l md))), .sh (.int m), .sh (.int m), .sh (.int lead), .no, .no] := by
  obtain ⟨q0, qd⟩ := small_ok h
  have L := loop_rng (g := gN 7) (junk := [7, 8]) (body := L_rest_by_monic_1) (fun k => [.sh (.int q), .sh x1, .sh (.tup (nums md)), .ow (.lst (nums ((redz q lead l md).take k ++ l.drop k))), .sh (.int m), .sh (.int m), .sh (.int lead), .no, .no]) 0 (m + 1) (fun k hk => by
    have hk1 : k < l.length := by omega
    have hk2 : k < md.length := by omega
    have g1 : l[k]? = some l[k] := List.getElem?_eq_getElem hk1
    have g2 : md[k]? = some md[k] := List.getElem?_eq_getElem hk2
    have zl : (redz q lead l md).length = m + 1 := by rw [redz_len]; omega
    have tl : ((redz q lead l md).take k).length = k := by rw [List.length_take, zl]; omega
    have a1 : atI (nums ((redz q lead l md).take k ++ l.drop k)) ((m : Int) - (m : Int) + (0 + (k : Int))) = some (.int (l[k] : Int)) := by
      rw [show (m : Int) - (m : Int) + (0 + (k : Int)) = (k : Int) by omega]
      refine nums_at ?_
      rw [List.getElem?_append_right (by rw [tl]; exact Nat.le_refl _), tl, Nat.sub_self, List.getElem?_drop, Nat.add_zero, g1]
    have a2 : atI (nums md) (0 + (k : Int)) = some (.int (md[k] : Int)) := by rw [Int.zero_add]; exact nums_at g2
    have i1 : ixN (nums ((redz q lead l md).take k ++ l.drop k)).length ((m : Int) - (m : Int) + (0 + (k : Int))) = some k := by
      rw [show (m : Int) - (m : Int) + (0 + (k : Int)) = (k : Int) by omega]
      refine ixN_of ?_
      rw [nums_len, List.length_append, tl, List.length_drop]; omega
    have m1 : mulOk (lead : Int) (md[k] : Int) = true := by
      have := h1 _ (List.getElem_mem hk2)
      exact mulOk_le (a := 2) (b := 2) (by omega) (by omega) (by omega)
    have nn : 0 ≤ ((l[k] : Int) - (lead : Int) * (md[k] : Int)) % (q : Int) := Int.emod_nonneg _ (by omega)
    have st : (nums ((redz q lead l md).take k ++ l.drop k)).set k (.int (((l[k] : Int) - (lead : Int) * (md[k] : Int)) % (q : Int))) = nums ((redz q lead l md).take (k + 1) ++ l.drop (k + 1)) := by
      rw [show ((l[k] : Int) - (lead : Int) * (md[k] : Int)) % (q : Int) = ((((l[k] : Int) - (lead : Int) * (md[k] : Int)) % (q : Int)).toNat : Int) from (Int.toNat_of_nonneg nn).symm, nums_set]
      congr 1
      rw [List.set_append_right _ _ (by rw [tl]; exact Nat.le_refl _), tl, Nat.sub_self, List.drop_eq_getElem_cons hk1, List.set_cons_zero, List.take_succ, List.append_assoc]
      congr 1
      rw [redz_at g1 g2]
      rfl
    simp only [L_rest_by_monic_1, bindR_ok, bindR_ex, a_bind, a_of_some, a_var, a_c, a_bin, a_un, a_test, a_tru, a_cmp, a_and, a_or, a_not, a_if, a_andV, a_orV, a_notV, a_bl, a_nil, a_cons, a_tup, a_lst, a_call, a_callF, a_callIO, a_seq, a_next, a_ret, a_retN, a_drop, a_break, a_cont, a_ifS, a_asg, a_asgG, a_app, a_setI, a_iter, a_rng, a_for, a_slice, a_part0, a_part1, a_lc, a_yes, l_val, l_new, l_slot, f_val, f_new, f_slot, t_val, t_new, t_slot, s_val, s_new, s_slot, a_look2, a_look1, a_fa0, a_fa1, a_la0, a_la1, a_fn1, a_fn2, a_gN, a_gs0, a_gs1, a_gT, a_turn, a_fg0, a_fg1, a_wp0, a_wp1, a_rs0, a_rs1, a_mkF, a_mkIO, a_owL, a_owD, a_tkT, a_tkF, a_apf, a_apb, a_apn, a_aps, e_addI, e_subI, e_mulI, e_divI, e_modI, e_negI, e_lt, e_le, e_gt, e_ge, e_is, e_isnot, a_lift, e_lenL, e_lenT, e_lenS, e_intI, e_intB, e_absI, e_truB, e_truI, e_truN, e_truL, e_truT, e_ixL, e_ixT, e_tupL, e_tupT, e_lstL, e_lstT, e_sum, cEq_int, cNe_int, fin_nx, fin_val, fin_new, fin_slot, fin_ex, finIO_nx, finIO_val, finIO_new, finIO_slot, finIO_ex, entry_eq, entryIO_eq, atI_0, atI_1, atI_2, atI_3, Option.map_some, List.set_cons_zero, List.set_cons_succ, List.getElem?_cons_zero, List.getElem?_cons_succ, List.getElem?_nil, List.getD_cons_zero, List.getD_cons_succ, List.map_cons, List.map_nil, List.length_cons, List.length_nil, List.length_map, List.replicate, List.cons_append, List.nil_append, Nat.reduceAdd, Nat.reduceSub, Nat.reduceLeDiff, Nat.reduceLT, Nat.zero_le, Int.reduceLT, Int.reduceLE, Int.reduceEq, Int.reduceNeg, if_true, if_false, Bool.false_eq_true, Bool.true_eq_false, reduceIte, Bool.or_true, Bool.true_or, Bool.false_or, Bool.or_false, Bool.and_true, Bool.and_false, Bool.true_and, Bool.false_and, Bool.not_true, Bool.not_false, decide_true, decide_false, decide_eq_true_eq, and_self, not_true_eq_false, not_false_eq_true, ite_self, a_try_ok, a_raise0, a_raise, a_h0, a_h1, a_en0, a_en1, a_se_nx, a_se_rt, a_lv0, a_lv1, a_un0, a_un1, a_cx0, a_cx1, a_cx2, a_cx3, a_xf, a_pad, a_walk, a_rev, a_par, a_chain, a_chainB, w_enum, w_zipL, w_zipT, e_max, e_min, e_and, e_sumA, e_sumAT, List.reverse_cons, List.reverse_nil, List.zip_cons_cons, List.zip_nil_left, List.zip_nil_right, a_mIndex, a_fld, a_callT, a_methD, a_make, a_val, a_newD, w_enumL, w_enumT, a_apT, a_apG, a_apL, e_ixG, e_tupF, a_no0, a_no1, e_sliceL, e_sliceT, a_ins, a_cat, e_revL, List.nil_append, List.reverse_nil, subE_BadField_BadField, in_xs_0_BadField, fc_modulus_Field, fc_size_Field, fc_prime_Field, fc_degree_Field, fc_digit_rows_Field, fc_sum_rows_Field, fc_product_rows_Field, fc_negatives_Field, fc_inverses_Field, fc_step_row_Field, subXs_BadField_RankError, subXs_BadField_ValueError, subXs_BadField_BadThing, tf_m_raised_Field_Field, tf_eq_Field, a1, a2, i1, e_mulI m1, e_modI q0, st])
  rw [List.take_zero, List.drop_zero, List.nil_append] at L
  rw [List.take_of_length_le (by rw [redz_len]; omega), List.drop_of_length_le (by omega), List.append_nil] at L
  exact L
/-! ### the field's defs: reduced by the modulus -/
theorem okN {q : Nat} (h : q < 2 ^ 62) : okR (q : Int) = true := okR_of (by omega)
theorem redz_lt {q lead : Nat} (hq : 0 < q) : ∀ {l md : List Nat}, ∀ d ∈ redz q lead l md, d < q := by
  intro l md d hd
  unfold redz at hd
  obtain ⟨i, hi, rfl⟩ := List.getElem_of_mem hd
  rw [List.getElem_zipWith]
  unfold rd1
  have h1 := Int.emod_lt_of_pos ((l[i]'(by rw [List.length_zipWith] at hi; omega) : Int) - (lead : Int) * (md[i]'(by rw [List.length_zipWith] at hi; omega) : Int)) (show (0 : Int) < (q : Int) by omega)
  have h2 := Int.emod_nonneg ((l[i]'(by rw [List.length_zipWith] at hi; omega) : Int) - (lead : Int) * (md[i]'(by rw [List.length_zipWith] at hi; omega) : Int)) (show (q : Int) ≠ 0 by omega)
  omega
theorem redm_lt {q : Nat} (hq : 0 < q) {l md : List Nat} : ∀ d ∈ redm q md l, d < q := fun d hd => redz_lt hq d (List.mem_of_mem_take hd)
theorem redm_len {q : Nat} {l md : List Nat} (h : md.length = l.length + 1) : (redm q md l).length = l.length := by
  unfold redm
  rw [List.length_take, redz_len, List.length_cons]; omega
theorem rest_frame (body : M Fl) {xs ys zs us : List D} {n : Int} {q : D} (e1 : (ys.length : Int) - 1 = n) (e2 : (xs.length : Int) - 1 = n) (w : wDn [.int n, .int (n - 1), .int (-1)] = some [.int n])
    (hb : mLoop (gN 5) [5, 6, 7, 8] body [.int n] [.sh q, .sh (.lst xs), .sh (.tup ys), .ow (.lst xs), .sh (.int n), .no, .no, .no, .no] = .ok .nx [.sh q, .sh (.lst xs), .sh (.tup ys), .ow (.lst zs), .sh (.int n), .no, .no, .no, .no])
    (cc : cutD zs none (some n) = us) :
    mkF 9 (mSeq (mAsg 3 (mCall (fn1 dList) (mCons (mVar 1) mNil)))
  (mSeq (mAsg 4 (mBin dSub (mCall (fn1 dLen) (mCons (mVar 2) mNil)) (mC (.int 1))))
  (mSeq (mFor (mWalk wDn (mCons (mBin dSub (mCall (fn1 dLen) (mCons (mVar 3) mNil)) (mC (.int 1))) (mCons (mBin dSub (mVar 4) (mC (.int 1))) (mCons (mUn dNeg (mC (.int 1))) mNil)))) (gN 5) [5, 6, 7, 8] body)
  (mRet (mSlice (mVar 3) (mPart none) (mPart (some (mVar 4)))))))) [q, .lst xs, .tup ys] = .ok true (.lst us) .non := by
  simp only [bindR_ok, bindR_ex, a_bind, a_of_some, a_var, a_c, a_bin, a_un, a_test, a_tru, a_cmp, a_and, a_or, a_not, a_if, a_andV, a_orV, a_notV, a_bl, a_nil, a_cons, a_tup, a_lst, a_call, a_callF, a_callIO, a_seq, a_next, a_ret, a_retN, a_drop, a_break, a_cont, a_ifS, a_asg, a_asgG, a_app, a_setI, a_iter, a_rng, a_for, a_slice, a_part0, a_part1, a_lc, a_yes, l_val, l_new, l_slot, f_val, f_new, f_slot, t_val, t_new, t_slot, s_val, s_new, s_slot, a_look2, a_look1, a_fa0, a_fa1, a_la0, a_la1, a_fn1, a_fn2, a_gN, a_gs0, a_gs1, a_gT, a_turn, a_fg0, a_fg1, a_wp0, a_wp1, a_rs0, a_rs1, a_mkF, a_mkIO, a_owL, a_owD, a_tkT, a_tkF, a_apf, a_apb, a_apn, a_aps, e_addI, e_subI, e_mulI, e_divI, e_modI, e_negI, e_lt, e_le, e_gt, e_ge, e_is, e_isnot, a_lift, e_lenL, e_lenT, e_lenS, e_intI, e_intB, e_absI, e_truB, e_truI, e_truN, e_truL, e_truT, e_ixL, e_ixT, e_tupL, e_tupT, e_lstL, e_lstT, e_sum, cEq_int, cNe_int, fin_nx, fin_val, fin_new, fin_slot, fin_ex, finIO_nx, finIO_val, finIO_new, finIO_slot, finIO_ex, entry_eq, entryIO_eq, atI_0, atI_1, atI_2, atI_3, Option.map_some, List.set_cons_zero, List.set_cons_succ, List.getElem?_cons_zero, List.getElem?_cons_succ, List.getElem?_nil, List.getD_cons_zero, List.getD_cons_succ, List.map_cons, List.map_nil, List.length_cons, List.length_nil, List.length_map, List.replicate, List.cons_append, List.nil_append, Nat.reduceAdd, Nat.reduceSub, Nat.reduceLeDiff, Nat.reduceLT, Nat.zero_le, Int.reduceLT, Int.reduceLE, Int.reduceEq, Int.reduceNeg, if_true, if_false, Bool.false_eq_true, Bool.true_eq_false, reduceIte, Bool.or_true, Bool.true_or, Bool.false_or, Bool.or_false, Bool.and_true, Bool.and_false, Bool.true_and, Bool.false_and, Bool.not_true, Bool.not_false, decide_true, decide_false, decide_eq_true_eq, and_self, not_true_eq_false, not_false_eq_true, ite_self, a_try_ok, a_raise0, a_raise, a_h0, a_h1, a_en0, a_en1, a_se_nx, a_se_rt, a_lv0, a_lv1, a_un0, a_un1, a_cx0, a_cx1, a_cx2, a_cx3, a_xf, a_pad, a_walk, a_rev, a_par, a_chain, a_chainB, w_enum, w_zipL, w_zipT, e_max, e_min, e_and, e_sumA, e_sumAT, List.reverse_cons, List.reverse_nil, List.zip_cons_cons, List.zip_nil_left, List.zip_nil_right, a_mIndex, a_fld, a_callT, a_methD, a_make, a_val, a_newD, w_enumL, w_enumT, a_apT, a_apG, a_apL, e_ixG, e_tupF, a_no0, a_no1, e_sliceL, e_sliceT, a_ins, a_cat, e_revL, List.nil_append, List.reverse_nil, subE_BadField_BadField, in_xs_0_BadField, fc_modulus_Field, fc_size_Field, fc_prime_Field, fc_degree_Field, fc_digit_rows_Field, fc_sum_rows_Field, fc_product_rows_Field, fc_negatives_Field, fc_inverses_Field, fc_step_row_Field, subXs_BadField_RankError, subXs_BadField_ValueError, subXs_BadField_BadThing, tf_m_raised_Field_Field, tf_eq_Field, e1, e2, w, hb, cc]
theorem rest_mono {q : Nat} (h : q = 2 ∨ q = 3) {l md : List Nat} (hl : md.length = l.length + 1) (h0 : 0 < l.length) (h15 : l.length ≤ 15) (h1 : ∀ d ∈ md, d < q) (h2 : ∀ d ∈ l, d < q) :
    F_rest_by_monic [.int q, .lst (nums (0 :: l)), .tup (nums md)] = .ok true (.lst (nums (redm q md l))) .non := by
  obtain ⟨q0, qd⟩ := small_ok h
  have e1 : ((nums md).length : Int) - 1 = (l.length : Int) := by rw [nums_len, hl]; omega
  have e2 : ((nums (0 :: l)).length : Int) - 1 = (l.length : Int) := by rw [nums_len, List.length_cons]; omega
  have ok1 : okR (l.length : Int) = true := okN (by omega)
  have ok2 : okR ((l.length : Int) - 1) = true := okR_of (by omega)
  have ok3 : okR ((l.length : Int) + 1) = true := okR_of (by omega)
  have w : wDn [.int (l.length : Int), .int ((l.length : Int) - 1), .int (-1)] = some [.int (l.length : Int)] := by
    rw [wDn_eq ok1 ok2, show ((l.length : Int) - ((l.length : Int) - 1)).toNat = 1 by omega, rngDn_1]
  obtain ⟨lead, hlead⟩ : ∃ x, l.getLast? = some x := by
    rw [List.getLast?_eq_some_getLast (by intro z; rw [z] at h0; exact absurd h0 (by decide))]; exact ⟨_, rfl⟩
  have l1 : lead < q := h2 _ (List.mem_of_getLast? hlead)
  have g1 : (0 :: l)[l.length]? = some lead := by
    rw [List.getLast?_eq_getElem?] at hlead
    rw [show l.length = (l.length - 1) + 1 by omega, List.getElem?_cons_succ]
    exact hlead
  have L := red_in h (0 :: l) md (by rw [List.length_cons, hl]) (by rw [List.length_cons]; omega) lead l.length (.lst (nums (0 :: l))) .non hl l1 h1
  have rd : redm q md l = (redz q lead (0 :: l) md).take l.length := by unfold redm; rw [hlead, hl]; rfl
  have zl : (nums (redz q lead (0 :: l) md)).length = l.length + 1 := by rw [nums_len, redz_len, List.length_cons, hl]; omega
  have tn : ((l.length : Int) + 1).toNat = l.length + 1 := by omega
  have T : turn (gN 5) [5, 6, 7, 8] L_rest_by_monic_2 (.int (l.length : Int)) [.sh (.int q), .sh (.lst (nums (0 :: l))), .sh (.tup (nums md)), .ow (.lst (nums (0 :: l))), .sh (.int l.length), .no, .no, .no, .no] = .ok .nx [.sh (.int q), .sh (.lst (nums (0 :: l))), .sh (.tup (nums md)), .ow (.lst (nums (redz q lead (0 :: l) md))), .sh (.int l.length), .no, .no, .no, .no] := by
    simp only [L_rest_by_monic_2, bindR_ok, bindR_ex, a_bind, a_of_some, a_var, a_c, a_bin, a_un, a_test, a_tru, a_cmp, a_and, a_or, a_not, a_if, a_andV, a_orV, a_notV, a_bl, a_nil, a_cons, a_tup, a_lst, a_call, a_callF, a_callIO, a_seq, a_next, a_ret, a_retN, a_drop, a_break, a_cont, a_ifS, a_asg, a_asgG, a_app, a_setI, a_iter, a_rng, a_for, a_slice, a_part0, a_part1, a_lc, a_yes, l_val, l_new, l_slot, f_val, f_new, f_slot, t_val, t_new, t_slot, s_val, s_new, s_slot, a_look2, a_look1, a_fa0, a_fa1, a_la0, a_la1, a_fn1, a_fn2, a_gN, a_gs0, a_gs1, a_gT, a_turn, a_fg0, a_fg1, a_wp0, a_wp1, a_rs0, a_rs1, a_mkF, a_mkIO, a_owL, a_owD, a_tkT, a_tkF, a_apf, a_apb, a_apn, a_aps, e_addI, e_subI, e_mulI, e_divI, e_modI, e_negI, e_lt, e_le, e_gt, e_ge, e_is, e_isnot, a_lift, e_lenL, e_lenT, e_lenS, e_intI, e_intB, e_absI, e_truB, e_truI, e_truN, e_truL, e_truT, e_ixL, e_ixT, e_tupL, e_tupT, e_lstL, e_lstT, e_sum, cEq_int, cNe_int, fin_nx, fin_val, fin_new, fin_slot, fin_ex, finIO_nx, finIO_val, finIO_new, finIO_slot, finIO_ex, entry_eq, entryIO_eq, atI_0, atI_1, atI_2, atI_3, Option.map_some, List.set_cons_zero, List.set_cons_succ, List.getElem?_cons_zero, List.getElem?_cons_succ, List.getElem?_nil, List.getD_cons_zero, List.getD_cons_succ, List.map_cons, List.map_nil, List.length_cons, List.length_nil, List.length_map, List.replicate, List.cons_append, List.nil_append, Nat.reduceAdd, Nat.reduceSub, Nat.reduceLeDiff, Nat.reduceLT, Nat.zero_le, Int.reduceLT, Int.reduceLE, Int.reduceEq, Int.reduceNeg, if_true, if_false, Bool.false_eq_true, Bool.true_eq_false, reduceIte, Bool.or_true, Bool.true_or, Bool.false_or, Bool.or_false, Bool.and_true, Bool.and_false, Bool.true_and, Bool.false_and, Bool.not_true, Bool.not_false, decide_true, decide_false, decide_eq_true_eq, and_self, not_true_eq_false, not_false_eq_true, ite_self, a_try_ok, a_raise0, a_raise, a_h0, a_h1, a_en0, a_en1, a_se_nx, a_se_rt, a_lv0, a_lv1, a_un0, a_un1, a_cx0, a_cx1, a_cx2, a_cx3, a_xf, a_pad, a_walk, a_rev, a_par, a_chain, a_chainB, w_enum, w_zipL, w_zipT, e_max, e_min, e_and, e_sumA, e_sumAT, List.reverse_cons, List.reverse_nil, List.zip_cons_cons, List.zip_nil_left, List.zip_nil_right, a_mIndex, a_fld, a_callT, a_methD, a_make, a_val, a_newD, w_enumL, w_enumT, a_apT, a_apG, a_apL, e_ixG, e_tupF, a_no0, a_no1, e_sliceL, e_sliceT, a_ins, a_cat, e_revL, List.nil_append, List.reverse_nil, subE_BadField_BadField, in_xs_0_BadField, fc_modulus_Field, fc_size_Field, fc_prime_Field, fc_degree_Field, fc_digit_rows_Field, fc_sum_rows_Field, fc_product_rows_Field, fc_negatives_Field, fc_inverses_Field, fc_step_row_Field, subXs_BadField_RankError, subXs_BadField_ValueError, subXs_BadField_BadThing, tf_m_raised_Field_Field, tf_eq_Field, nums_at g1, ok3, tn, L]
  have T1 : mLoop (gN 5) [5, 6, 7, 8] L_rest_by_monic_2 [.int (l.length : Int)] [.sh (.int q), .sh (.lst (nums (0 :: l))), .sh (.tup (nums md)), .ow (.lst (nums (0 :: l))), .sh (.int l.length), .no, .no, .no, .no] = .ok .nx [.sh (.int q), .sh (.lst (nums (0 :: l))), .sh (.tup (nums md)), .ow (.lst (nums (redz q lead (0 :: l) md))), .sh (.int l.length), .no, .no, .no, .no] := by
    rw [loop_cons, T]; rfl
  have cc : cutD (nums (redz q lead (0 :: l) md)) none (some (l.length : Int)) = nums (redm q md l) := by
    rw [cut_take (by rw [zl]; omega), nums_take, rd]
  exact rest_frame L_rest_by_monic_2 e1 e2 w T1 cc
/-! ### sums -/
theorem zipWith_map {α β γ : Type} (f : α → β → γ) : ∀ (a : List α) (b : List β), List.zipWith f a b = (a.zip b).map fun p => f p.1 p.2
  | [], _ => by simp
  | _ :: _, [] => by simp
  | x :: xs, y :: ys => by simp [zipWith_map f xs ys]
theorem nums_map {α : Type} (l : List α) (f : α → Nat) : nums (l.map f) = l.map fun x => nI (f x) := List.map_map ..
def sumE (q m a b : Nat) : Nat := dv q (List.zipWith (fun x y => (x + y) % q) (dg q m a) (dg q m b))
def sumRow (q m a : Nat) : List Nat := (List.range (q ^ m)).map (sumE q m a)
def rowsD (q m : Nat) : List D := (List.range (q ^ m)).map fun t => .tup (nums (dg q m t))
def sumsD (q m : Nat) : List D := (List.range (q ^ m)).map fun a => .tupf (nums (sumRow q m a))
theorem zip_lt {q m a b : Nat} (hq : 0 < q) : ∀ d ∈ List.zipWith (fun x y => (x + y) % q) (dg q m a) (dg q m b), d < q := by
  intro d hd
  obtain ⟨i, hi, rfl⟩ := List.getElem_of_mem hd
  rw [List.getElem_zipWith]
  exact Nat.mod_lt _ hq
theorem zip_len {q m a b : Nat} : (List.zipWith (fun x y => (x + y) % q) (dg q m a) (dg q m b)).length = m := by
  rw [List.length_zipWith, dg_len, dg_len, Nat.min_self]
theorem sumE_lt {q m a b : Nat} (h : q = 2 ∨ q = 3) : sumE q m a b < q ^ m := by
  have := dv_lt (q := q) (List.zipWith (fun x y => (x + y) % q) (dg q m a) (dg q m b)) (zip_lt (by omega))
  rw [zip_len] at this
  exact this
theorem sumRow_len {q m a : Nat} : (sumRow q m a).length = q ^ m := by unfold sumRow; simp
theorem sumRow_at {q m a b : Nat} (h : b < q ^ m) : (sumRow q m a)[b]? = some (sumE q m a b) := by
  unfold sumRow
  rw [List.getElem?_map, List.getElem?_range h]; rfl
theorem sumsD_at {q m a : Nat} (h : a < q ^ m) : atI (sumsD q m) (a : Int) = some (.tupf (nums (sumRow q m a))) := by
  refine atI_nat ?_
  unfold sumsD
  rw [List.getElem?_map, List.getElem?_range h]; rfl
theorem sums_in {q m a : Nat} (h : q = 2 ∨ q = 3) (hm : m ≤ 1000) (hn : q ^ m ≤ 100000) (x1 x2 x3 : D) (acc : List D) :
    mLoop (gN 5) [5] L_sums_of_2 (rowsD q m) [.sh (.int q), .sh x1, .ow (.lst acc), .sh (.tup (nums (dg q m a))), .ow (.lst []), .no, .no, .no] =
      .ok .nx [.sh (.int q), .sh x1, .ow (.lst acc), .sh (.tup (nums (dg q m a))), .ow (.lst (nums (sumRow q m a))), .no, .no, .no] := by
  obtain ⟨q0, qd⟩ := small_ok h
  have L := loop_fn (g := gN 5) (junk := [5]) (body := L_sums_of_2) (fun k => [.sh (.int q), .sh x1, .ow (.lst acc), .sh (.tup (nums (dg q m a))), .ow (.lst (nums ((List.range k).map (sumE q m a)))), .no, .no, .no]) (rowsD q m) (fun b d hb => by
    obtain ⟨hb1, rfl⟩ : b < q ^ m ∧ .tup (nums (dg q m b)) = d := by
      unfold rowsD at hb
      rw [List.getElem?_map] at hb
      cases z : (List.range (q ^ m))[b]? with
      | none => rw [z] at hb; cases hb
      | some j =>
        rw [z] at hb
        obtain ⟨hl, hj⟩ := List.getElem?_eq_some_iff.mp z
        rw [List.getElem_range] at hj
        subst hj
        exact ⟨by simpa using hl, Option.some.inj hb⟩
    have lc : mLcLoop (gT 2 (gs1 (gN 6) (gs1 (gN 7) gs0))) [6, 7] mYes L_sums_of_1 (zipD (nums (dg q m a)) (nums (dg q m b))) [] [.sh (.int q), .sh x1, .ow (.lst acc), .sh (.tup (nums (dg q m a))), .ow (.lst (nums ((List.range b).map (sumE q m a)))), .sh (.tup (nums (dg q m b))), .no, .no] =
        .ok (nums (List.zipWith (fun x y => (x + y) % q) (dg q m a) (dg q m b))) [.sh (.int q), .sh x1, .ow (.lst acc), .sh (.tup (nums (dg q m a))), .ow (.lst (nums ((List.range b).map (sumE q m a)))), .sh (.tup (nums (dg q m b))), .no, .no] := by
      rw [show zipD (nums (dg q m a)) (nums (dg q m b)) = ((dg q m a).zip (dg q m b)).map (fun p : Nat × Nat => D.tup [nI p.1, nI p.2]) from zipD_map nI nI _ _, lc_map (g := gT 2 (gs1 (gN 6) (gs1 (gN 7) gs0))) (own := [6, 7]) (test := mYes) (elt := L_sums_of_1) (E := [.sh (.int q), .sh x1, .ow (.lst acc), .sh (.tup (nums (dg q m a))), .ow (.lst (nums ((List.range b).map (sumE q m a)))), .sh (.tup (nums (dg q m b))), .no, .no]) (fun p : Nat × Nat => .tup [nI p.1, nI p.2]) (fun p => nI ((p.1 + p.2) % q)) ((dg q m a).zip (dg q m b)) [] (by
        rw [List.length_zip, dg_len, dg_len, List.length_nil]; unfold lim; omega) (fun p hp => ⟨_, _, _, _, _, by
        simp only [bindR_ok, bindR_ex, a_bind, a_of_some, a_var, a_c, a_bin, a_un, a_test, a_tru, a_cmp, a_and, a_or, a_not, a_if, a_andV, a_orV, a_notV, a_bl, a_nil, a_cons, a_tup, a_lst, a_call, a_callF, a_callIO, a_seq, a_next, a_ret, a_retN, a_drop, a_break, a_cont, a_ifS, a_asg, a_asgG, a_app, a_setI, a_iter, a_rng, a_for, a_slice, a_part0, a_part1, a_lc, a_yes, l_val, l_new, l_slot, f_val, f_new, f_slot, t_val, t_new, t_slot, s_val, s_new, s_slot, a_look2, a_look1, a_fa0, a_fa1, a_la0, a_la1, a_fn1, a_fn2, a_gN, a_gs0, a_gs1, a_gT, a_turn, a_fg0, a_fg1, a_wp0, a_wp1, a_rs0, a_rs1, a_mkF, a_mkIO, a_owL, a_owD, a_tkT, a_tkF, a_apf, a_apb, a_apn, a_aps, e_addI, e_subI, e_mulI, e_divI, e_modI, e_negI, e_lt, e_le, e_gt, e_ge, e_is, e_isnot, a_lift, e_lenL, e_lenT, e_lenS, e_intI, e_intB, e_absI, e_truB, e_truI, e_truN, e_truL, e_truT, e_ixL, e_ixT, e_tupL, e_tupT, e_lstL, e_lstT, e_sum, cEq_int, cNe_int, fin_nx, fin_val, fin_new, fin_slot, fin_ex, finIO_nx, finIO_val, finIO_new, finIO_slot, finIO_ex, entry_eq, entryIO_eq, atI_0, atI_1, atI_2, atI_3, Option.map_some, List.set_cons_zero, List.set_cons_succ, List.getElem?_cons_zero, List.getElem?_cons_succ, List.getElem?_nil, List.getD_cons_zero, List.getD_cons_succ, List.map_cons, List.map_nil, List.length_cons, List.length_nil, List.length_map, List.replicate, List.cons_append, List.nil_append, Nat.reduceAdd, Nat.reduceSub, Nat.reduceLeDiff, Nat.reduceLT, Nat.zero_le, Int.reduceLT, Int.reduceLE, Int.reduceEq, Int.reduceNeg, if_true, if_false, Bool.false_eq_true, Bool.true_eq_false, reduceIte, Bool.or_true, Bool.true_or, Bool.false_or, Bool.or_false, Bool.and_true, Bool.and_false, Bool.true_and, Bool.false_and, Bool.not_true, Bool.not_false, decide_true, decide_false, decide_eq_true_eq, and_self, not_true_eq_false, not_false_eq_true, ite_self, a_try_ok, a_raise0, a_raise, a_h0, a_h1, a_en0, a_en1, a_se_nx, a_se_rt, a_lv0, a_lv1, a_un0, a_un1, a_cx0, a_cx1, a_cx2, a_cx3, a_xf, a_pad, a_walk, a_rev, a_par, a_chain, a_chainB, w_enum, w_zipL, w_zipT, e_max, e_min, e_and, e_sumA, e_sumAT, List.reverse_cons, List.reverse_nil, List.zip_cons_cons, List.zip_nil_left, List.zip_nil_right, a_mIndex, a_fld, a_callT, a_methD, a_make, a_val, a_newD, w_enumL, w_enumT, a_apT, a_apG, a_apL, e_ixG, e_tupF, a_no0, a_no1, e_sliceL, e_sliceT, a_ins, a_cat, e_revL, List.nil_append, List.reverse_nil, subE_BadField_BadField, in_xs_0_BadField, fc_modulus_Field, fc_size_Field, fc_prime_Field, fc_degree_Field, fc_digit_rows_Field, fc_sum_rows_Field, fc_product_rows_Field, fc_negatives_Field, fc_inverses_Field, fc_step_row_Field, subXs_BadField_RankError, subXs_BadField_ValueError, subXs_BadField_BadThing, tf_m_raised_Field_Field, tf_eq_Field, nI]; rfl, rfl, by
        simp only [L_sums_of_1, bindR_ok, bindR_ex, a_bind, a_of_some, a_var, a_c, a_bin, a_un, a_test, a_tru, a_cmp, a_and, a_or, a_not, a_if, a_andV, a_orV, a_notV, a_bl, a_nil, a_cons, a_tup, a_lst, a_call, a_callF, a_callIO, a_seq, a_next, a_ret, a_retN, a_drop, a_break, a_cont, a_ifS, a_asg, a_asgG, a_app, a_setI, a_iter, a_rng, a_for, a_slice, a_part0, a_part1, a_lc, a_yes, l_val, l_new, l_slot, f_val, f_new, f_slot, t_val, t_new, t_slot, s_val, s_new, s_slot, a_look2, a_look1, a_fa0, a_fa1, a_la0, a_la1, a_fn1, a_fn2, a_gN, a_gs0, a_gs1, a_gT, a_turn, a_fg0, a_fg1, a_wp0, a_wp1, a_rs0, a_rs1, a_mkF, a_mkIO, a_owL, a_owD, a_tkT, a_tkF, a_apf, a_apb, a_apn, a_aps, e_addI, e_subI, e_mulI, e_divI, e_modI, e_negI, e_lt, e_le, e_gt, e_ge, e_is, e_isnot, a_lift, e_lenL, e_lenT, e_lenS, e_intI, e_intB, e_absI, e_truB, e_truI, e_truN, e_truL, e_truT, e_ixL, e_ixT, e_tupL, e_tupT, e_lstL, e_lstT, e_sum, cEq_int, cNe_int, fin_nx, fin_val, fin_new, fin_slot, fin_ex, finIO_nx, finIO_val, finIO_new, finIO_slot, finIO_ex, entry_eq, entryIO_eq, atI_0, atI_1, atI_2, atI_3, Option.map_some, List.set_cons_zero, List.set_cons_succ, List.getElem?_cons_zero, List.getElem?_cons_succ, List.getElem?_nil, List.getD_cons_zero, List.getD_cons_succ, List.map_cons, List.map_nil, List.length_cons, List.length_nil, List.length_map, List.replicate, List.cons_append, List.nil_append, Nat.reduceAdd, Nat.reduceSub, Nat.reduceLeDiff, Nat.reduceLT, Nat.zero_le, Int.reduceLT, Int.reduceLE, Int.reduceEq, Int.reduceNeg, if_true, if_false, Bool.false_eq_true, Bool.true_eq_false, reduceIte, Bool.or_true, Bool.true_or, Bool.false_or, Bool.or_false, Bool.and_true, Bool.and_false, Bool.true_and, Bool.false_and, Bool.not_true, Bool.not_false, decide_true, decide_false, decide_eq_true_eq, and_self, not_true_eq_false, not_false_eq_true, ite_self, a_try_ok, a_raise0, a_raise, a_h0, a_h1, a_en0, a_en1, a_se_nx, a_se_rt, a_lv0, a_lv1, a_un0, a_un1, a_cx0, a_cx1, a_cx2, a_cx3, a_xf, a_pad, a_walk, a_rev, a_par, a_chain, a_chainB, w_enum, w_zipL, w_zipT, e_max, e_min, e_and, e_sumA, e_sumAT, List.reverse_cons, List.reverse_nil, List.zip_cons_cons, List.zip_nil_left, List.zip_nil_right, a_mIndex, a_fld, a_callT, a_methD, a_make, a_val, a_newD, w_enumL, w_enumT, a_apT, a_apG, a_apL, e_ixG, e_tupF, a_no0, a_no1, e_sliceL, e_sliceT, a_ins, a_cat, e_revL, List.nil_append, List.reverse_nil, subE_BadField_BadField, in_xs_0_BadField, fc_modulus_Field, fc_size_Field, fc_prime_Field, fc_degree_Field, fc_digit_rows_Field, fc_sum_rows_Field, fc_product_rows_Field, fc_negatives_Field, fc_inverses_Field, fc_step_row_Field, subXs_BadField_RankError, subXs_BadField_ValueError, subXs_BadField_BadThing, tf_m_raised_Field_Field, tf_eq_Field, e_modI q0]; rfl, f_val, by
        simp only [bindR_ok, bindR_ex, a_bind, a_of_some, a_var, a_c, a_bin, a_un, a_test, a_tru, a_cmp, a_and, a_or, a_not, a_if, a_andV, a_orV, a_notV, a_bl, a_nil, a_cons, a_tup, a_lst, a_call, a_callF, a_callIO, a_seq, a_next, a_ret, a_retN, a_drop, a_break, a_cont, a_ifS, a_asg, a_asgG, a_app, a_setI, a_iter, a_rng, a_for, a_slice, a_part0, a_part1, a_lc, a_yes, l_val, l_new, l_slot, f_val, f_new, f_slot, t_val, t_new, t_slot, s_val, s_new, s_slot, a_look2, a_look1, a_fa0, a_fa1, a_la0, a_la1, a_fn1, a_fn2, a_gN, a_gs0, a_gs1, a_gT, a_turn, a_fg0, a_fg1, a_wp0, a_wp1, a_rs0, a_rs1, a_mkF, a_mkIO, a_owL, a_owD, a_tkT, a_tkF, a_apf, a_apb, a_apn, a_aps, e_addI, e_subI, e_mulI, e_divI, e_modI, e_negI, e_lt, e_le, e_gt, e_ge, e_is, e_isnot, a_lift, e_lenL, e_lenT, e_lenS, e_intI, e_intB, e_absI, e_truB, e_truI, e_truN, e_truL, e_truT, e_ixL, e_ixT, e_tupL, e_tupT, e_lstL, e_lstT, e_sum, cEq_int, cNe_int, fin_nx, fin_val, fin_new, fin_slot, fin_ex, finIO_nx, finIO_val, finIO_new, finIO_slot, finIO_ex, entry_eq, entryIO_eq, atI_0, atI_1, atI_2, atI_3, Option.map_some, List.set_cons_zero, List.set_cons_succ, List.getElem?_cons_zero, List.getElem?_cons_succ, List.getElem?_nil, List.getD_cons_zero, List.getD_cons_succ, List.map_cons, List.map_nil, List.length_cons, List.length_nil, List.length_map, List.replicate, List.cons_append, List.nil_append, Nat.reduceAdd, Nat.reduceSub, Nat.reduceLeDiff, Nat.reduceLT, Nat.zero_le, Int.reduceLT, Int.reduceLE, Int.reduceEq, Int.reduceNeg, if_true, if_false, Bool.false_eq_true, Bool.true_eq_false, reduceIte, Bool.or_true, Bool.true_or, Bool.false_or, Bool.or_false, Bool.and_true, Bool.and_false, Bool.true_and, Bool.false_and, Bool.not_true, Bool.not_false, decide_true, decide_false, decide_eq_true_eq, and_self, not_true_eq_false, not_false_eq_true, ite_self, a_try_ok, a_raise0, a_raise, a_h0, a_h1, a_en0, a_en1, a_se_nx, a_se_rt, a_lv0, a_lv1, a_un0, a_un1, a_cx0, a_cx1, a_cx2, a_cx3, a_xf, a_pad, a_walk, a_rev, a_par, a_chain, a_chainB, w_enum, w_zipL, w_zipT, e_max, e_min, e_and, e_sumA, e_sumAT, List.reverse_cons, List.reverse_nil, List.zip_cons_cons, List.zip_nil_left, List.zip_nil_right, a_mIndex, a_fld, a_callT, a_methD, a_make, a_val, a_newD, w_enumL, w_enumT, a_apT, a_apG, a_apL, e_ixG, e_tupF, a_no0, a_no1, e_sliceL, e_sliceT, a_ins, a_cat, e_revL, List.nil_append, List.reverse_nil, subE_BadField_BadField, in_xs_0_BadField, fc_modulus_Field, fc_size_Field, fc_prime_Field, fc_degree_Field, fc_digit_rows_Field, fc_sum_rows_Field, fc_product_rows_Field, fc_negatives_Field, fc_inverses_Field, fc_step_row_Field, subXs_BadField_RankError, subXs_BadField_ValueError, subXs_BadField_BadThing, tf_m_raised_Field_Field, tf_eq_Field]⟩), zipWith_map, nums_map ((dg q m a).zip (dg q m b))]
      rfl
    have dvE := digits_value_L h (zip_lt (q := q) (m := m) (a := a) (b := b) (by omega)) (by rw [zip_len]; omega)
    have hl : (nums ((List.range b).map (sumE q m a))).length < lim := by rw [nums_len, List.length_map, List.length_range]; unfold lim; omega
    have e3 : nums ((List.range (b + 1)).map (sumE q m a)) = nums ((List.range b).map (sumE q m a)) ++ [.int (sumE q m a b : Nat)] := by
      rw [List.range_succ, List.map_append, nums_app]; rfl
    rw [e3]
    simp only [L_sums_of_2, bindR_ok, bindR_ex, a_bind, a_of_some, a_var, a_c, a_bin, a_un, a_test, a_tru, a_cmp, a_and, a_or, a_not, a_if, a_andV, a_orV, a_notV, a_bl, a_nil, a_cons, a_tup, a_lst, a_call, a_callF, a_callIO, a_seq, a_next, a_ret, a_retN, a_drop, a_break, a_cont, a_ifS, a_asg, a_asgG, a_app, a_setI, a_iter, a_rng, a_for, a_slice, a_part0, a_part1, a_lc, a_yes, l_val, l_new, l_slot, f_val, f_new, f_slot, t_val, t_new, t_slot, s_val, s_new, s_slot, a_look2, a_look1, a_fa0, a_fa1, a_la0, a_la1, a_fn1, a_fn2, a_gN, a_gs0, a_gs1, a_gT, a_turn, a_fg0, a_fg1, a_wp0, a_wp1, a_rs0, a_rs1, a_mkF, a_mkIO, a_owL, a_owD, a_tkT, a_tkF, a_apf, a_apb, a_apn, a_aps, e_addI, e_subI, e_mulI, e_divI, e_modI, e_negI, e_lt, e_le, e_gt, e_ge, e_is, e_isnot, a_lift, e_lenL, e_lenT, e_lenS, e_intI, e_intB, e_absI, e_truB, e_truI, e_truN, e_truL, e_truT, e_ixL, e_ixT, e_tupL, e_tupT, e_lstL, e_lstT, e_sum, cEq_int, cNe_int, fin_nx, fin_val, fin_new, fin_slot, fin_ex, finIO_nx, finIO_val, finIO_new, finIO_slot, finIO_ex, entry_eq, entryIO_eq, atI_0, atI_1, atI_2, atI_3, Option.map_some, List.set_cons_zero, List.set_cons_succ, List.getElem?_cons_zero, List.getElem?_cons_succ, List.getElem?_nil, List.getD_cons_zero, List.getD_cons_succ, List.map_cons, List.map_nil, List.length_cons, List.length_nil, List.length_map, List.replicate, List.cons_append, List.nil_append, Nat.reduceAdd, Nat.reduceSub, Nat.reduceLeDiff, Nat.reduceLT, Nat.zero_le, Int.reduceLT, Int.reduceLE, Int.reduceEq, Int.reduceNeg, if_true, if_false, Bool.false_eq_true, Bool.true_eq_false, reduceIte, Bool.or_true, Bool.true_or, Bool.false_or, Bool.or_false, Bool.and_true, Bool.and_false, Bool.true_and, Bool.false_and, Bool.not_true, Bool.not_false, decide_true, decide_false, decide_eq_true_eq, and_self, not_true_eq_false, not_false_eq_true, ite_self, a_try_ok, a_raise0, a_raise, a_h0, a_h1, a_en0, a_en1, a_se_nx, a_se_rt, a_lv0, a_lv1, a_un0, a_un1, a_cx0, a_cx1, a_cx2, a_cx3, a_xf, a_pad, a_walk, a_rev, a_par, a_chain, a_chainB, w_enum, w_zipL, w_zipT, e_max, e_min, e_and, e_sumA, e_sumAT, List.reverse_cons, List.reverse_nil, List.zip_cons_cons, List.zip_nil_left, List.zip_nil_right, a_mIndex, a_fld, a_callT, a_methD, a_make, a_val, a_newD, w_enumL, w_enumT, a_apT, a_apG, a_apL, e_ixG, e_tupF, a_no0, a_no1, e_sliceL, e_sliceT, a_ins, a_cat, e_revL, List.nil_append, List.reverse_nil, subE_BadField_BadField, in_xs_0_BadField, fc_modulus_Field, fc_size_Field, fc_prime_Field, fc_degree_Field, fc_digit_rows_Field, fc_sum_rows_Field, fc_product_rows_Field, fc_negatives_Field, fc_inverses_Field, fc_step_row_Field, subXs_BadField_RankError, subXs_BadField_ValueError, subXs_BadField_BadThing, tf_m_raised_Field_Field, tf_eq_Field, lc, dvE, hl]
    rfl)
  rw [show (rowsD q m).length = q ^ m by unfold rowsD; simp] at L
  exact L
theorem sums_of_eq {q m : Nat} (h : q = 2 ∨ q = 3) (hm : m ≤ 1000) (hn : q ^ m ≤ 100000) : F_sums_of [.int q, .tup (rowsD q m)] = .ok false (.tup (sumsD q m)) .non := by
  obtain ⟨q0, qd⟩ := small_ok h
  have L := loop_fn (g := gN 3) (junk := [3, 4, 5]) (body := L_sums_of_3) (fun k => [.sh (.int q), .sh (.tup (rowsD q m)), .ow (.lst ((List.range k).map fun a => .tupf (nums (sumRow q m a)))), .no, .no, .no, .no, .no]) (rowsD q m) (fun b d hb => by
    obtain ⟨hb1, rfl⟩ : b < q ^ m ∧ .tup (nums (dg q m b)) = d := by
      unfold rowsD at hb
      rw [List.getElem?_map] at hb
      cases z : (List.range (q ^ m))[b]? with
      | none => rw [z] at hb; cases hb
      | some j =>
        rw [z] at hb
        obtain ⟨hl, hj⟩ := List.getElem?_eq_some_iff.mp z
        rw [List.getElem_range] at hj
        subst hj
        exact ⟨by simpa using hl, Option.some.inj hb⟩
    have S := sums_in (a := b) h hm hn (.tup (rowsD q m)) .non .non ((List.range b).map fun a => .tupf (nums (sumRow q m a)))
    have hl : b < lim := by unfold lim; omega
    rw [List.range_succ, List.map_append]
    simp only [L_sums_of_3, bindR_ok, bindR_ex, a_bind, a_of_some, a_var, a_c, a_bin, a_un, a_test, a_tru, a_cmp, a_and, a_or, a_not, a_if, a_andV, a_orV, a_notV, a_bl, a_nil, a_cons, a_tup, a_lst, a_call, a_callF, a_callIO, a_seq, a_next, a_ret, a_retN, a_drop, a_break, a_cont, a_ifS, a_asg, a_asgG, a_app, a_setI, a_iter, a_rng, a_for, a_slice, a_part0, a_part1, a_lc, a_yes, l_val, l_new, l_slot, f_val, f_new, f_slot, t_val, t_new, t_slot, s_val, s_new, s_slot, a_look2, a_look1, a_fa0, a_fa1, a_la0, a_la1, a_fn1, a_fn2, a_gN, a_gs0, a_gs1, a_gT, a_turn, a_fg0, a_fg1, a_wp0, a_wp1, a_rs0, a_rs1, a_mkF, a_mkIO, a_owL, a_owD, a_tkT, a_tkF, a_apf, a_apb, a_apn, a_aps, e_addI, e_subI, e_mulI, e_divI, e_modI, e_negI, e_lt, e_le, e_gt, e_ge, e_is, e_isnot, a_lift, e_lenL, e_lenT, e_lenS, e_intI, e_intB, e_absI, e_truB, e_truI, e_truN, e_truL, e_truT, e_ixL, e_ixT, e_tupL, e_tupT, e_lstL, e_lstT, e_sum, cEq_int, cNe_int, fin_nx, fin_val, fin_new, fin_slot, fin_ex, finIO_nx, finIO_val, finIO_new, finIO_slot, finIO_ex, entry_eq, entryIO_eq, atI_0, atI_1, atI_2, atI_3, Option.map_some, List.set_cons_zero, List.set_cons_succ, List.getElem?_cons_zero, List.getElem?_cons_succ, List.getElem?_nil, List.getD_cons_zero, List.getD_cons_succ, List.map_cons, List.map_nil, List.length_cons, List.length_nil, List.length_map, List.replicate, List.cons_append, List.nil_append, Nat.reduceAdd, Nat.reduceSub, Nat.reduceLeDiff, Nat.reduceLT, Nat.zero_le, Int.reduceLT, Int.reduceLE, Int.reduceEq, Int.reduceNeg, if_true, if_false, Bool.false_eq_true, Bool.true_eq_false, reduceIte, Bool.or_true, Bool.true_or, Bool.false_or, Bool.or_false, Bool.and_true, Bool.and_false, Bool.true_and, Bool.false_and, Bool.not_true, Bool.not_false, decide_true, decide_false, decide_eq_true_eq, and_self, not_true_eq_false, not_false_eq_true, ite_self, a_try_ok, a_raise0, a_raise, a_h0, a_h1, a_en0, a_en1, a_se_nx, a_se_rt, a_lv0, a_lv1, a_un0, a_un1, a_cx0, a_cx1, a_cx2, a_cx3, a_xf, a_pad, a_walk, a_rev, a_par, a_chain, a_chainB, w_enum, w_zipL, w_zipT, e_max, e_min, e_and, e_sumA, e_sumAT, List.reverse_cons, List.reverse_nil, List.zip_cons_cons, List.zip_nil_left, List.zip_nil_right, a_mIndex, a_fld, a_callT, a_methD, a_make, a_val, a_newD, w_enumL, w_enumT, a_apT, a_apG, a_apL, e_ixG, e_tupF, a_no0, a_no1, e_sliceL, e_sliceT, a_ins, a_cat, e_revL, List.nil_append, List.reverse_nil, subE_BadField_BadField, in_xs_0_BadField, fc_modulus_Field, fc_size_Field, fc_prime_Field, fc_degree_Field, fc_digit_rows_Field, fc_sum_rows_Field, fc_product_rows_Field, fc_negatives_Field, fc_inverses_Field, fc_step_row_Field, subXs_BadField_RankError, subXs_BadField_ValueError, subXs_BadField_BadThing, tf_m_raised_Field_Field, tf_eq_Field, S, List.length_range, hl])
  rw [show (rowsD q m).length = q ^ m by unfold rowsD; simp] at L
  rw [show (List.range 0).map (fun a => D.tupf (nums (sumRow q m a))) = [] from rfl] at L
  simp only [F_sums_of, B_sums_of, bindR_ok, bindR_ex, a_bind, a_of_some, a_var, a_c, a_bin, a_un, a_test, a_tru, a_cmp, a_and, a_or, a_not, a_if, a_andV, a_orV, a_notV, a_bl, a_nil, a_cons, a_tup, a_lst, a_call, a_callF, a_callIO, a_seq, a_next, a_ret, a_retN, a_drop, a_break, a_cont, a_ifS, a_asg, a_asgG, a_app, a_setI, a_iter, a_rng, a_for, a_slice, a_part0, a_part1, a_lc, a_yes, l_val, l_new, l_slot, f_val, f_new, f_slot, t_val, t_new, t_slot, s_val, s_new, s_slot, a_look2, a_look1, a_fa0, a_fa1, a_la0, a_la1, a_fn1, a_fn2, a_gN, a_gs0, a_gs1, a_gT, a_turn, a_fg0, a_fg1, a_wp0, a_wp1, a_rs0, a_rs1, a_mkF, a_mkIO, a_owL, a_owD, a_tkT, a_tkF, a_apf, a_apb, a_apn, a_aps, e_addI, e_subI, e_mulI, e_divI, e_modI, e_negI, e_lt, e_le, e_gt, e_ge, e_is, e_isnot, a_lift, e_lenL, e_lenT, e_lenS, e_intI, e_intB, e_absI, e_truB, e_truI, e_truN, e_truL, e_truT, e_ixL, e_ixT, e_tupL, e_tupT, e_lstL, e_lstT, e_sum, cEq_int, cNe_int, fin_nx, fin_val, fin_new, fin_slot, fin_ex, finIO_nx, finIO_val, finIO_new, finIO_slot, finIO_ex, entry_eq, entryIO_eq, atI_0, atI_1, atI_2, atI_3, Option.map_some, List.set_cons_zero, List.set_cons_succ, List.getElem?_cons_zero, List.getElem?_cons_succ, List.getElem?_nil, List.getD_cons_zero, List.getD_cons_succ, List.map_cons, List.map_nil, List.length_cons, List.length_nil, List.length_map, List.replicate, List.cons_append, List.nil_append, Nat.reduceAdd, Nat.reduceSub, Nat.reduceLeDiff, Nat.reduceLT, Nat.zero_le, Int.reduceLT, Int.reduceLE, Int.reduceEq, Int.reduceNeg, if_true, if_false, Bool.false_eq_true, Bool.true_eq_false, reduceIte, Bool.or_true, Bool.true_or, Bool.false_or, Bool.or_false, Bool.and_true, Bool.and_false, Bool.true_and, Bool.false_and, Bool.not_true, Bool.not_false, decide_true, decide_false, decide_eq_true_eq, and_self, not_true_eq_false, not_false_eq_true, ite_self, a_try_ok, a_raise0, a_raise, a_h0, a_h1, a_en0, a_en1, a_se_nx, a_se_rt, a_lv0, a_lv1, a_un0, a_un1, a_cx0, a_cx1, a_cx2, a_cx3, a_xf, a_pad, a_walk, a_rev, a_par, a_chain, a_chainB, w_enum, w_zipL, w_zipT, e_max, e_min, e_and, e_sumA, e_sumAT, List.reverse_cons, List.reverse_nil, List.zip_cons_cons, List.zip_nil_left, List.zip_nil_right, a_mIndex, a_fld, a_callT, a_methD, a_make, a_val, a_newD, w_enumL, w_enumT, a_apT, a_apG, a_apL, e_ixG, e_tupF, a_no0, a_no1, e_sliceL, e_sliceT, a_ins, a_cat, e_revL, List.nil_append, List.reverse_nil, subE_BadField_BadField, in_xs_0_BadField, fc_modulus_Field, fc_size_Field, fc_prime_Field, fc_degree_Field, fc_digit_rows_Field, fc_sum_rows_Field, fc_product_rows_Field, fc_negatives_Field, fc_inverses_Field, fc_step_row_Field, subXs_BadField_RankError, subXs_BadField_ValueError, subXs_BadField_BadThing, tf_m_raised_Field_Field, tf_eq_Field, L]
  rfl
/-! ### products -/
def itr (q : Nat) (md : List Nat) : Nat → List Nat → List Nat
  | 0, l => l
  | k + 1, l => redm q md (itr q md k l)
theorem itr_len {q : Nat} {md l : List Nat} (h : md.length = l.length + 1) : ∀ k, (itr q md k l).length = l.length
  | 0 => rfl
  | k + 1 => by
    show (redm q md (itr q md k l)).length = _
    rw [redm_len (by rw [itr_len h k]; exact h), itr_len h k]
theorem itr_lt {q : Nat} {md l : List Nat} (hq : 0 < q) (h : ∀ d ∈ l, d < q) : ∀ k, ∀ d ∈ itr q md k l, d < q
  | 0 => h
  | k + 1 => redm_lt hq
def shE (q : Nat) (md : List Nat) (m a i : Nat) : Nat := dv q (itr q md i (dg q m a))
theorem shE_lt {q m a i : Nat} {md : List Nat} (hq : 0 < q) (h : md.length = m + 1) : shE q md m a i < q ^ m := by
  have := dv_lt (q := q) (itr q md i (dg q m a)) (itr_lt hq (dg_lt hq m a) i)
  rw [itr_len (by rw [dg_len]; exact h), dg_len] at this
  exact this
def push (q m below step : Nat) (row : List Nat) : List Nat := row ++ [sumE q m (row.getD (row.length - below) 0) step]
def grow (q m below step : Nat) : Nat → List Nat → List Nat
  | 0, row => row
  | k + 1, row => push q m below step (grow q m below step k row)
theorem grow_len {q m below step : Nat} {row : List Nat} : ∀ k, (grow q m below step k row).length = row.length + k
  | 0 => rfl
  | k + 1 => by
    show (push q m below step (grow q m below step k row)).length = _
    unfold push
    rw [List.length_append, grow_len k]; rfl
theorem grow_lt {q m below step : Nat} {row : List Nat} (hq : q = 2 ∨ q = 3) (h : ∀ d ∈ row, d < q ^ m) : ∀ k, ∀ d ∈ grow q m below step k row, d < q ^ m
  | 0 => h
  | k + 1 => by
    intro d hd
    rcases List.mem_append.mp (show d ∈ grow q m below step k row ++ _ from hd) with h1 | h1
    · exact grow_lt hq h k d h1
    · rw [List.mem_singleton] at h1
      rw [h1]; exact sumE_lt hq
def rowP (q : Nat) (md : List Nat) (m a : Nat) : Nat → List Nat
  | 0 => [0]
  | j + 1 => grow q m (rowP q md m a j).length (shE q md m a j) ((q - 1) * (rowP q md m a j).length) (rowP q md m a j)
theorem rowP_len {q : Nat} {md : List Nat} {m a : Nat} (hq : 0 < q) : ∀ j, (rowP q md m a j).length = q ^ j
  | 0 => rfl
  | j + 1 => by
    show (grow q m _ _ _ (rowP q md m a j)).length = _
    rw [grow_len, rowP_len hq j, Nat.pow_succ, Nat.mul_comm (q ^ j) q]
    obtain ⟨p, rfl⟩ : ∃ p, q = p + 1 := ⟨q - 1, by omega⟩
    rw [Nat.add_sub_cancel, Nat.succ_mul, Nat.add_comm]
theorem rowP_lt {q : Nat} {md : List Nat} {m a : Nat} (hq : q = 2 ∨ q = 3) : ∀ j, ∀ d ∈ rowP q md m a j, d < q ^ m
  | 0 => by
    intro d hd
    rw [show rowP q md m a 0 = [0] from rfl, List.mem_singleton] at hd
    rw [hd]; exact Nat.pow_pos (by omega)
  | j + 1 => grow_lt hq (rowP_lt hq j) _
def prodRow (q : Nat) (md : List Nat) (m a : Nat) : List Nat := rowP q md m a m
def prodsD (q : Nat) (md : List Nat) (m : Nat) : List D := (List.range (q ^ m)).map fun a => .tupf (nums (prodRow q md m a))
section
variable {q m a : Nat} {md : List Nat}
theorem pr_1 (h : q = 2 ∨ q = 3) (hl : md.length = m + 1) (h0 : 0 < m) (h15 : m ≤ 15) (h1 : ∀ d ∈ md, d < q) (x2 x3 x4 x6 : D) (acc : List D) :
    mLoop (gN 9) [9] L_products_of_1 (rngD 0 m) [.sh (.int q), .sh (.tup (nums md)), .sh x2, .sh x3, .sh x4, .ow (.lst acc), .sh x6, .ow (.lst []), .ow (.lst (nums (dg q m a))), .no, .no, .no, .no, .no] =
      .ok .nx [.sh (.int q), .sh (.tup (nums md)), .sh x2, .sh x3, .sh x4, .ow (.lst acc), .sh x6, .ow (.lst (nums ((List.range m).map (shE q md m a)))), .ow (.lst (nums (itr q md m (dg q m a)))), .no, .no, .no, .no, .no] := by
  obtain ⟨q0, qd⟩ := small_ok h
  have hq : 0 < q := by omega
  have L := loop_rng (g := gN 9) (junk := [9]) (body := L_products_of_1) (fun k => [.sh (.int q), .sh (.tup (nums md)), .sh x2, .sh x3, .sh x4, .ow (.lst acc), .sh x6, .ow (.lst (nums ((List.range k).map (shE q md m a)))), .ow (.lst (nums (itr q md k (dg q m a)))), .no, .no, .no, .no, .no]) 0 m (fun k hk => by
    have il : (itr q md k (dg q m a)).length = m := by rw [itr_len (by rw [dg_len]; exact hl), dg_len]
    have ilt := itr_lt (md := md) hq (dg_lt hq m a) k
    have d1 := digits_value_L h ilt (by omega)
    have r1 := rest_mono h (l := itr q md k (dg q m a)) (md := md) (by rw [il]; exact hl) (by omega) (by omega) h1 ilt
    have hll : (nums ((List.range k).map (shE q md m a))).length < lim := by rw [nums_len, List.length_map, List.length_range]; unfold lim; omega
    have ad : dAdd (.lst [.int 0]) (.lst (nums (itr q md k (dg q m a)))) = some (.new (.lst (nums (0 :: itr q md k (dg q m a))))) := e_addL (by rw [nums_len, il]; exact Nat.le_trans (show [D.int 0].length + m ≤ 16 by show 1 + m ≤ 16; omega) (by decide))
    rw [List.range_succ, List.map_append, nums_app]
    simp only [L_products_of_1, bindR_ok, bindR_ex, a_bind, a_of_some, a_var, a_c, a_bin, a_un, a_test, a_tru, a_cmp, a_and, a_or, a_not, a_if, a_andV, a_orV, a_notV, a_bl, a_nil, a_cons, a_tup, a_lst, a_call, a_callF, a_callIO, a_seq, a_next, a_ret, a_retN, a_drop, a_break, a_cont, a_ifS, a_asg, a_asgG, a_app, a_setI, a_iter, a_rng, a_for, a_slice, a_part0, a_part1, a_lc, a_yes, l_val, l_new, l_slot, f_val, f_new, f_slot, t_val, t_new, t_slot, s_val, s_new, s_slot, a_look2, a_look1, a_fa0, a_fa1, a_la0, a_la1, a_fn1, a_fn2, a_gN, a_gs0, a_gs1, a_gT, a_turn, a_fg0, a_fg1, a_wp0, a_wp1, a_rs0, a_rs1, a_mkF, a_mkIO, a_owL, a_owD, a_tkT, a_tkF, a_apf, a_apb, a_apn, a_aps, e_addI, e_subI, e_mulI, e_divI, e_modI, e_negI, e_lt, e_le, e_gt, e_ge, e_is, e_isnot, a_lift, e_lenL, e_lenT, e_lenS, e_intI, e_intB, e_absI, e_truB, e_truI, e_truN, e_truL, e_truT, e_ixL, e_ixT, e_tupL, e_tupT, e_lstL, e_lstT, e_sum, cEq_int, cNe_int, fin_nx, fin_val, fin_new, fin_slot, fin_ex, finIO_nx, finIO_val, finIO_new, finIO_slot, finIO_ex, entry_eq, entryIO_eq, atI_0, atI_1, atI_2, atI_3, Option.map_some, List.set_cons_zero, List.set_cons_succ, List.getElem?_cons_zero, List.getElem?_cons_succ, List.getElem?_nil, List.getD_cons_zero, List.getD_cons_succ, List.map_cons, List.map_nil, List.length_cons, List.length_nil, List.length_map, List.replicate, List.cons_append, List.nil_append, Nat.reduceAdd, Nat.reduceSub, Nat.reduceLeDiff, Nat.reduceLT, Nat.zero_le, Int.reduceLT, Int.reduceLE, Int.reduceEq, Int.reduceNeg, if_true, if_false, Bool.false_eq_true, Bool.true_eq_false, reduceIte, Bool.or_true, Bool.true_or, Bool.false_or, Bool.or_false, Bool.and_true, Bool.and_false, Bool.true_and, Bool.false_and, Bool.not_true, Bool.not_false, decide_true, decide_false, decide_eq_true_eq, and_self, not_true_eq_false, not_false_eq_true, ite_self, a_try_ok, a_raise0, a_raise, a_h0, a_h1, a_en0, a_en1, a_se_nx, a_se_rt, a_lv0, a_lv1, a_un0, a_un1, a_cx0, a_cx1, a_cx2, a_cx3, a_xf, a_pad, a_walk, a_rev, a_par, a_chain, a_chainB, w_enum, w_zipL, w_zipT, e_max, e_min, e_and, e_sumA, e_sumAT, List.reverse_cons, List.reverse_nil, List.zip_cons_cons, List.zip_nil_left, List.zip_nil_right, a_mIndex, a_fld, a_callT, a_methD, a_make, a_val, a_newD, w_enumL, w_enumT, a_apT, a_apG, a_apL, e_ixG, e_tupF, a_no0, a_no1, e_sliceL, e_sliceT, a_ins, a_cat, e_revL, List.nil_append, List.reverse_nil, subE_BadField_BadField, in_xs_0_BadField, fc_modulus_Field, fc_size_Field, fc_prime_Field, fc_degree_Field, fc_digit_rows_Field, fc_sum_rows_Field, fc_product_rows_Field, fc_negatives_Field, fc_inverses_Field, fc_step_row_Field, subXs_BadField_RankError, subXs_BadField_ValueError, subXs_BadField_BadThing, tf_m_raised_Field_Field, tf_eq_Field, d1, r1, hll, ad, a_apN (nums_flat _)]
    rfl)
  exact L
theorem pr_2 (h : q = 2 ∨ q = 3) (hn : q ^ m ≤ 100000) (step : Nat) (hs : step < q ^ m) (row : List Nat) (n : Nat) (hr : n ≤ 300000) (hr0 : 0 < row.length) (hr1 : row.length ≤ 100000) (hrl : ∀ d ∈ row, d < q ^ m) (x1 x2 x4 x6 : D) (s5 s7 s8 : S) (x11 : D) :
    mLoop (gN 9) [9] L_products_of_2 (rngD 0 n) [.sh (.int q), .sh x1, .sh x2, .sh (.tup (sumsD q m)), .sh x4, s5, .sh x6, s7, s8, .no, .ow (.lst (nums row)), .sh x11, .sh (.int step), .sh (.int row.length)] =
      .ok .nx [.sh (.int q), .sh x1, .sh x2, .sh (.tup (sumsD q m)), .sh x4, s5, .sh x6, s7, s8, .no, .ow (.lst (nums (grow q m row.length step n row))), .sh x11, .sh (.int step), .sh (.int row.length)] := by
  have L := loop_rng (g := gN 9) (junk := [9]) (body := L_products_of_2) (fun k => [.sh (.int q), .sh x1, .sh x2, .sh (.tup (sumsD q m)), .sh x4, s5, .sh x6, s7, s8, .no, .ow (.lst (nums (grow q m row.length step k row))), .sh x11, .sh (.int step), .sh (.int row.length)]) 0 n (fun k hk => by
    have gl := grow_len (q := q) (m := m) (below := row.length) (step := step) (row := row) k
    have hk1 : k < (grow q m row.length step k row).length := by rw [gl]; omega
    have g1 : (grow q m row.length step k row)[k]? = some ((grow q m row.length step k row)[k]) := List.getElem?_eq_getElem hk1
    have a0 : (((nums (grow q m row.length step k row)).length : Int) - (row.length : Int)) = (k : Int) := by rw [nums_len, gl]; omega
    have v1 : (grow q m row.length step k row)[k] < q ^ m := grow_lt h hrl k _ (List.getElem_mem hk1)
    have a1 := sumsD_at v1
    have a2 := nums_at (sumRow_at (a := (grow q m row.length step k row)[k]) hs)
    have hll : (nums (grow q m row.length step k row)).length < lim := by rw [nums_len, gl]; unfold lim; omega
    have e3 : nums (grow q m row.length step (k + 1) row) = nums (grow q m row.length step k row) ++ [.int (sumE q m ((grow q m row.length step k row)[k]) step : Nat)] := by
      show nums (push q m row.length step (grow q m row.length step k row)) = _
      unfold push
      rw [nums_app, gl, show row.length + k - row.length = k by omega, List.getD_eq_getElem?_getD, g1]
      rfl
    rw [e3]
    simp only [L_products_of_2, bindR_ok, bindR_ex, a_bind, a_of_some, a_var, a_c, a_bin, a_un, a_test, a_tru, a_cmp, a_and, a_or, a_not, a_if, a_andV, a_orV, a_notV, a_bl, a_nil, a_cons, a_tup, a_lst, a_call, a_callF, a_callIO, a_seq, a_next, a_ret, a_retN, a_drop, a_break, a_cont, a_ifS, a_asg, a_asgG, a_app, a_setI, a_iter, a_rng, a_for, a_slice, a_part0, a_part1, a_lc, a_yes, l_val, l_new, l_slot, f_val, f_new, f_slot, t_val, t_new, t_slot, s_val, s_new, s_slot, a_look2, a_look1, a_fa0, a_fa1, a_la0, a_la1, a_fn1, a_fn2, a_gN, a_gs0, a_gs1, a_gT, a_turn, a_fg0, a_fg1, a_wp0, a_wp1, a_rs0, a_rs1, a_mkF, a_mkIO, a_owL, a_owD, a_tkT, a_tkF, a_apf, a_apb, a_apn, a_aps, e_addI, e_subI, e_mulI, e_divI, e_modI, e_negI, e_lt, e_le, e_gt, e_ge, e_is, e_isnot, a_lift, e_lenL, e_lenT, e_lenS, e_intI, e_intB, e_absI, e_truB, e_truI, e_truN, e_truL, e_truT, e_ixL, e_ixT, e_tupL, e_tupT, e_lstL, e_lstT, e_sum, cEq_int, cNe_int, fin_nx, fin_val, fin_new, fin_slot, fin_ex, finIO_nx, finIO_val, finIO_new, finIO_slot, finIO_ex, entry_eq, entryIO_eq, atI_0, atI_1, atI_2, atI_3, Option.map_some, List.set_cons_zero, List.set_cons_succ, List.getElem?_cons_zero, List.getElem?_cons_succ, List.getElem?_nil, List.getD_cons_zero, List.getD_cons_succ, List.map_cons, List.map_nil, List.length_cons, List.length_nil, List.length_map, List.replicate, List.cons_append, List.nil_append, Nat.reduceAdd, Nat.reduceSub, Nat.reduceLeDiff, Nat.reduceLT, Nat.zero_le, Int.reduceLT, Int.reduceLE, Int.reduceEq, Int.reduceNeg, if_true, if_false, Bool.false_eq_true, Bool.true_eq_false, reduceIte, Bool.or_true, Bool.true_or, Bool.false_or, Bool.or_false, Bool.and_true, Bool.and_false, Bool.true_and, Bool.false_and, Bool.not_true, Bool.not_false, decide_true, decide_false, decide_eq_true_eq, and_self, not_true_eq_false, not_false_eq_true, ite_self, a_try_ok, a_raise0, a_raise, a_h0, a_h1, a_en0, a_en1, a_se_nx, a_se_rt, a_lv0, a_lv1, a_un0, a_un1, a_cx0, a_cx1, a_cx2, a_cx3, a_xf, a_pad, a_walk, a_rev, a_par, a_chain, a_chainB, w_enum, w_zipL, w_zipT, e_max, e_min, e_and, e_sumA, e_sumAT, List.reverse_cons, List.reverse_nil, List.zip_cons_cons, List.zip_nil_left, List.zip_nil_right, a_mIndex, a_fld, a_callT, a_methD, a_make, a_val, a_newD, w_enumL, w_enumT, a_apT, a_apG, a_apL, e_ixG, e_tupF, a_no0, a_no1, e_sliceL, e_sliceT, a_ins, a_cat, e_revL, List.nil_append, List.reverse_nil, subE_BadField_BadField, in_xs_0_BadField, fc_modulus_Field, fc_size_Field, fc_prime_Field, fc_degree_Field, fc_digit_rows_Field, fc_sum_rows_Field, fc_product_rows_Field, fc_negatives_Field, fc_inverses_Field, fc_step_row_Field, subXs_BadField_RankError, subXs_BadField_ValueError, subXs_BadField_BadThing, tf_m_raised_Field_Field, tf_eq_Field, a0, nums_at g1, a1, a2, hll])
  exact L
theorem pr_3 (h : q = 2 ∨ q = 3) (hl : md.length = m + 1) (hn : q ^ m ≤ 100000) (hm15 : m ≤ 15) (x1 x2 x4 x6 : D) (s5 s8 : S) :
    mLoop (gN 11) [9, 11, 12, 13] L_products_of_3 (rngD 0 m) [.sh (.int q), .sh x1, .sh x2, .sh (.tup (sumsD q m)), .sh x4, s5, .sh x6, .ow (.lst (nums ((List.range m).map (shE q md m a)))), s8, .no, .ow (.lst (nums [0])), .no, .no, .no] =
      .ok .nx [.sh (.int q), .sh x1, .sh x2, .sh (.tup (sumsD q m)), .sh x4, s5, .sh x6, .ow (.lst (nums ((List.range m).map (shE q md m a)))), s8, .no, .ow (.lst (nums (prodRow q md m a))), .no, .no, .no] := by
  obtain ⟨q0, qd⟩ := small_ok h
  have hq : 0 < q := by omega
  have L := loop_rng (g := gN 11) (junk := [9, 11, 12, 13]) (body := L_products_of_3) (fun k => [.sh (.int q), .sh x1, .sh x2, .sh (.tup (sumsD q m)), .sh x4, s5, .sh x6, .ow (.lst (nums ((List.range m).map (shE q md m a)))), s8, .no, .ow (.lst (nums (rowP q md m a k))), .no, .no, .no]) 0 m (fun k hk => by
    have rl := rowP_len (md := md) (m := m) (a := a) hq k
    have pk : q ^ k ≤ q ^ m := Nat.pow_le_pow_right hq (by omega)
    have pk0 : 0 < q ^ k := Nat.pow_pos hq
    have g1 : atI (nums ((List.range m).map (shE q md m a))) (0 + (k : Int)) = some (.int (shE q md m a k : Nat)) := by
      rw [Int.zero_add]
      refine nums_at ?_
      rw [List.getElem?_map, List.getElem?_range hk]; rfl
    have bnd : (q - 1) * (rowP q md m a k).length ≤ 300000 := by
      rw [rl]
      rcases h with rfl | rfl
      · omega
      · omega
    have P := pr_2 h hn (shE q md m a k) (shE_lt hq hl) (rowP q md m a k) ((q - 1) * (rowP q md m a k).length) bnd (by rw [rl]; exact pk0) (by rw [rl]; omega) (rowP_lt h k) x1 x2 x4 x6 s5 (.ow (.lst (nums ((List.range m).map (shE q md m a))))) s8 (.int (0 + (k : Int)))
    have mo : mulOk ((q : Int) - 1) (rowP q md m a k).length = true := mulOk_le (a := 2) (b := 20) (by omega) (by rw [rl]; omega) (by omega)
    have ec : ((q : Int) - 1) * ((rowP q md m a k).length : Int) = (((q - 1) * (rowP q md m a k).length : Nat) : Int) := by
      rw [Int.natCast_mul, Int.natCast_sub (by omega)]; rfl
    have ok1 : okR (((q - 1) * (rowP q md m a k).length : Nat) : Int) = true := okN (by omega)
    have ln : (nums (rowP q md m a k)).length = (rowP q md m a k).length := nums_len _
    have tn : (((q - 1) * (rowP q md m a k).length : Nat) : Int).toNat = (q - 1) * (rowP q md m a k).length := Int.toNat_natCast _
    have e3 : rowP q md m a (k + 1) = grow q m (rowP q md m a k).length (shE q md m a k) ((q - 1) * (rowP q md m a k).length) (rowP q md m a k) := rfl
    rw [e3]
    simp only [L_products_of_3, bindR_ok, bindR_ex, a_bind, a_of_some, a_var, a_c, a_bin, a_un, a_test, a_tru, a_cmp, a_and, a_or, a_not, a_if, a_andV, a_orV, a_notV, a_bl, a_nil, a_cons, a_tup, a_lst, a_call, a_callF, a_callIO, a_seq, a_next, a_ret, a_retN, a_drop, a_break, a_cont, a_ifS, a_asg, a_asgG, a_app, a_setI, a_iter, a_rng, a_for, a_slice, a_part0, a_part1, a_lc, a_yes, l_val, l_new, l_slot, f_val, f_new, f_slot, t_val, t_new, t_slot, s_val, s_new, s_slot, a_look2, a_look1, a_fa0, a_fa1, a_la0, a_la1, a_fn1, a_fn2, a_gN, a_gs0, a_gs1, a_gT, a_turn, a_fg0, a_fg1, a_wp0, a_wp1, a_rs0, a_rs1, a_mkF, a_mkIO, a_owL, a_owD, a_tkT, a_tkF, a_apf, a_apb, a_apn, a_aps, e_addI, e_subI, e_mulI, e_divI, e_modI, e_negI, e_lt, e_le, e_gt, e_ge, e_is, e_isnot, a_lift, e_lenL, e_lenT, e_lenS, e_intI, e_intB, e_absI, e_truB, e_truI, e_truN, e_truL, e_truT, e_ixL, e_ixT, e_tupL, e_tupT, e_lstL, e_lstT, e_sum, cEq_int, cNe_int, fin_nx, fin_val, fin_new, fin_slot, fin_ex, finIO_nx, finIO_val, finIO_new, finIO_slot, finIO_ex, entry_eq, entryIO_eq, atI_0, atI_1, atI_2, atI_3, Option.map_some, List.set_cons_zero, List.set_cons_succ, List.getElem?_cons_zero, List.getElem?_cons_succ, List.getElem?_nil, List.getD_cons_zero, List.getD_cons_succ, List.map_cons, List.map_nil, List.length_cons, List.length_nil, List.length_map, List.replicate, List.cons_append, List.nil_append, Nat.reduceAdd, Nat.reduceSub, Nat.reduceLeDiff, Nat.reduceLT, Nat.zero_le, Int.reduceLT, Int.reduceLE, Int.reduceEq, Int.reduceNeg, if_true, if_false, Bool.false_eq_true, Bool.true_eq_false, reduceIte, Bool.or_true, Bool.true_or, Bool.false_or, Bool.or_false, Bool.and_true, Bool.and_false, Bool.true_and, Bool.false_and, Bool.not_true, Bool.not_false, decide_true, decide_false, decide_eq_true_eq, and_self, not_true_eq_false, not_false_eq_true, ite_self, a_try_ok, a_raise0, a_raise, a_h0, a_h1, a_en0, a_en1, a_se_nx, a_se_rt, a_lv0, a_lv1, a_un0, a_un1, a_cx0, a_cx1, a_cx2, a_cx3, a_xf, a_pad, a_walk, a_rev, a_par, a_chain, a_chainB, w_enum, w_zipL, w_zipT, e_max, e_min, e_and, e_sumA, e_sumAT, List.reverse_cons, List.reverse_nil, List.zip_cons_cons, List.zip_nil_left, List.zip_nil_right, a_mIndex, a_fld, a_callT, a_methD, a_make, a_val, a_newD, w_enumL, w_enumT, a_apT, a_apG, a_apL, e_ixG, e_tupF, a_no0, a_no1, e_sliceL, e_sliceT, a_ins, a_cat, e_revL, List.nil_append, List.reverse_nil, subE_BadField_BadField, in_xs_0_BadField, fc_modulus_Field, fc_size_Field, fc_prime_Field, fc_degree_Field, fc_digit_rows_Field, fc_sum_rows_Field, fc_product_rows_Field, fc_negatives_Field, fc_inverses_Field, fc_step_row_Field, subXs_BadField_RankError, subXs_BadField_ValueError, subXs_BadField_BadThing, tf_m_raised_Field_Field, tf_eq_Field, g1, ln, e_mulI mo, ec, ok1, tn, P])
  exact L
theorem pr_turn (b1 b3 : M Fl) {q x1 x2 x3 : D} {m : Int} {k : Nat} {acc ds sh it rw : List D} (ok1 : okR m = true) (tn : m.toNat = k) (hll : acc.length < lim)
    (P1 : mLoop (gN 9) [9] b1 (rngD 0 k) [.sh q, .sh x1, .sh x2, .sh x3, .sh (.int m), .ow (.lst acc), .sh (.tup ds), .ow (.lst []), .ow (.lst ds), .no, .no, .no, .no, .no] = .ok .nx [.sh q, .sh x1, .sh x2, .sh x3, .sh (.int m), .ow (.lst acc), .sh (.tup ds), .ow (.lst sh), .ow (.lst it), .no, .no, .no, .no, .no])
    (P3 : mLoop (gN 11) [9, 11, 12, 13] b3 (rngD 0 k) [.sh q, .sh x1, .sh x2, .sh x3, .sh (.int m), .ow (.lst acc), .sh (.tup ds), .ow (.lst sh), .ow (.lst it), .no, .ow (.lst [.int 0]), .no, .no, .no] = .ok .nx [.sh q, .sh x1, .sh x2, .sh x3, .sh (.int m), .ow (.lst acc), .sh (.tup ds), .ow (.lst sh), .ow (.lst it), .no, .ow (.lst rw), .no, .no, .no]) :
    turn (gN 6) [6, 7, 8, 9, 10, 11, 12, 13] (mSeq (mAsg 7 (mLst mNil))
  (mSeq (mAsg 8 (mCall (fn1 dList) (mCons (mVar 6) mNil)))
  (mSeq (mFor (mRng (mCons (mVar 4) mNil)) (gN 9) [9] b1)
  (mSeq (mAsg 10 (mLst (mCons (mC (.int 0)) mNil)))
  (mSeq (mFor (mRng (mCons (mVar 4) mNil)) (gN 11) [9, 11, 12, 13] b3)
  (mDrop (mApp 5 (mCall (fn1 dTupleF) (mCons (mVar 10) mNil))))))))) (.tup ds) [.sh q, .sh x1, .sh x2, .sh x3, .sh (.int m), .ow (.lst acc), .no, .no, .no, .no, .no, .no, .no, .no] = .ok .nx [.sh q, .sh x1, .sh x2, .sh x3, .sh (.int m), .ow (.lst (acc ++ [.tupf rw])), .no, .no, .no, .no, .no, .no, .no, .no] := by
  simp only [bindR_ok, bindR_ex, a_bind, a_of_some, a_var, a_c, a_bin, a_un, a_test, a_tru, a_cmp, a_and, a_or, a_not, a_if, a_andV, a_orV, a_notV, a_bl, a_nil, a_cons, a_tup, a_lst, a_call, a_callF, a_callIO, a_seq, a_next, a_ret, a_retN, a_drop, a_break, a_cont, a_ifS, a_asg, a_asgG, a_app, a_setI, a_iter, a_rng, a_for, a_slice, a_part0, a_part1, a_lc, a_yes, l_val, l_new, l_slot, f_val, f_new, f_slot, t_val, t_new, t_slot, s_val, s_new, s_slot, a_look2, a_look1, a_fa0, a_fa1, a_la0, a_la1, a_fn1, a_fn2, a_gN, a_gs0, a_gs1, a_gT, a_turn, a_fg0, a_fg1, a_wp0, a_wp1, a_rs0, a_rs1, a_mkF, a_mkIO, a_owL, a_owD, a_tkT, a_tkF, a_apf, a_apb, a_apn, a_aps, e_addI, e_subI, e_mulI, e_divI, e_modI, e_negI, e_lt, e_le, e_gt, e_ge, e_is, e_isnot, a_lift, e_lenL, e_lenT, e_lenS, e_intI, e_intB, e_absI, e_truB, e_truI, e_truN, e_truL, e_truT, e_ixL, e_ixT, e_tupL, e_tupT, e_lstL, e_lstT, e_sum, cEq_int, cNe_int, fin_nx, fin_val, fin_new, fin_slot, fin_ex, finIO_nx, finIO_val, finIO_new, finIO_slot, finIO_ex, entry_eq, entryIO_eq, atI_0, atI_1, atI_2, atI_3, Option.map_some, List.set_cons_zero, List.set_cons_succ, List.getElem?_cons_zero, List.getElem?_cons_succ, List.getElem?_nil, List.getD_cons_zero, List.getD_cons_succ, List.map_cons, List.map_nil, List.length_cons, List.length_nil, List.length_map, List.replicate, List.cons_append, List.nil_append, Nat.reduceAdd, Nat.reduceSub, Nat.reduceLeDiff, Nat.reduceLT, Nat.zero_le, Int.reduceLT, Int.reduceLE, Int.reduceEq, Int.reduceNeg, if_true, if_false, Bool.false_eq_true, Bool.true_eq_false, reduceIte, Bool.or_true, Bool.true_or, Bool.false_or, Bool.or_false, Bool.and_true, Bool.and_false, Bool.true_and, Bool.false_and, Bool.not_true, Bool.not_false, decide_true, decide_false, decide_eq_true_eq, and_self, not_true_eq_false, not_false_eq_true, ite_self, a_try_ok, a_raise0, a_raise, a_h0, a_h1, a_en0, a_en1, a_se_nx, a_se_rt, a_lv0, a_lv1, a_un0, a_un1, a_cx0, a_cx1, a_cx2, a_cx3, a_xf, a_pad, a_walk, a_rev, a_par, a_chain, a_chainB, w_enum, w_zipL, w_zipT, e_max, e_min, e_and, e_sumA, e_sumAT, List.reverse_cons, List.reverse_nil, List.zip_cons_cons, List.zip_nil_left, List.zip_nil_right, a_mIndex, a_fld, a_callT, a_methD, a_make, a_val, a_newD, w_enumL, w_enumT, a_apT, a_apG, a_apL, e_ixG, e_tupF, a_no0, a_no1, e_sliceL, e_sliceT, a_ins, a_cat, e_revL, List.nil_append, List.reverse_nil, subE_BadField_BadField, in_xs_0_BadField, fc_modulus_Field, fc_size_Field, fc_prime_Field, fc_degree_Field, fc_digit_rows_Field, fc_sum_rows_Field, fc_product_rows_Field, fc_negatives_Field, fc_inverses_Field, fc_step_row_Field, subXs_BadField_RankError, subXs_BadField_ValueError, subXs_BadField_BadThing, tf_m_raised_Field_Field, tf_eq_Field, ok1, tn, P1, P3, hll]
theorem pr_frame (b4 : M Fl) {q x3 : D} {m : Int} {ms rows out : List D} (e1 : (ms.length : Int) - 1 = m)
    (L : mLoop (gN 6) [6, 7, 8, 9, 10, 11, 12, 13] b4 rows [.sh q, .sh (.tup ms), .sh (.tup rows), .sh x3, .sh (.int m), .ow (.lst []), .no, .no, .no, .no, .no, .no, .no, .no] = .ok .nx [.sh q, .sh (.tup ms), .sh (.tup rows), .sh x3, .sh (.int m), .ow (.lst out), .no, .no, .no, .no, .no, .no, .no, .no]) :
    mkF 14 (mSeq (mAsg 4 (mBin dSub (mCall (fn1 dLen) (mCons (mVar 1) mNil)) (mC (.int 1))))
  (mSeq (mAsg 5 (mLst mNil))
  (mSeq (mFor (mIter (mVar 2)) (gN 6) [6, 7, 8, 9, 10, 11, 12, 13] b4)
  (mRet (mCall (fn1 dTuple) (mCons (mVar 5) mNil)))))) [q, .tup ms, .tup rows, x3] = .ok false (.tup out) .non := by
  simp only [bindR_ok, bindR_ex, a_bind, a_of_some, a_var, a_c, a_bin, a_un, a_test, a_tru, a_cmp, a_and, a_or, a_not, a_if, a_andV, a_orV, a_notV, a_bl, a_nil, a_cons, a_tup, a_lst, a_call, a_callF, a_callIO, a_seq, a_next, a_ret, a_retN, a_drop, a_break, a_cont, a_ifS, a_asg, a_asgG, a_app, a_setI, a_iter, a_rng, a_for, a_slice, a_part0, a_part1, a_lc, a_yes, l_val, l_new, l_slot, f_val, f_new, f_slot, t_val, t_new, t_slot, s_val, s_new, s_slot, a_look2, a_look1, a_fa0, a_fa1, a_la0, a_la1, a_fn1, a_fn2, a_gN, a_gs0, a_gs1, a_gT, a_turn, a_fg0, a_fg1, a_wp0, a_wp1, a_rs0, a_rs1, a_mkF, a_mkIO, a_owL, a_owD, a_tkT, a_tkF, a_apf, a_apb, a_apn, a_aps, e_addI, e_subI, e_mulI, e_divI, e_modI, e_negI, e_lt, e_le, e_gt, e_ge, e_is, e_isnot, a_lift, e_lenL, e_lenT, e_lenS, e_intI, e_intB, e_absI, e_truB, e_truI, e_truN, e_truL, e_truT, e_ixL, e_ixT, e_tupL, e_tupT, e_lstL, e_lstT, e_sum, cEq_int, cNe_int, fin_nx, fin_val, fin_new, fin_slot, fin_ex, finIO_nx, finIO_val, finIO_new, finIO_slot, finIO_ex, entry_eq, entryIO_eq, atI_0, atI_1, atI_2, atI_3, Option.map_some, List.set_cons_zero, List.set_cons_succ, List.getElem?_cons_zero, List.getElem?_cons_succ, List.getElem?_nil, List.getD_cons_zero, List.getD_cons_succ, List.map_cons, List.map_nil, List.length_cons, List.length_nil, List.length_map, List.replicate, List.cons_append, List.nil_append, Nat.reduceAdd, Nat.reduceSub, Nat.reduceLeDiff, Nat.reduceLT, Nat.zero_le, Int.reduceLT, Int.reduceLE, Int.reduceEq, Int.reduceNeg, if_true, if_false, Bool.false_eq_true, Bool.true_eq_false, reduceIte, Bool.or_true, Bool.true_or, Bool.false_or, Bool.or_false, Bool.and_true, Bool.and_false, Bool.true_and, Bool.false_and, Bool.not_true, Bool.not_false, decide_true, decide_false, decide_eq_true_eq, and_self, not_true_eq_false, not_false_eq_true, ite_self, a_try_ok, a_raise0, a_raise, a_h0, a_h1, a_en0, a_en1, a_se_nx, a_se_rt, a_lv0, a_lv1, a_un0, a_un1, a_cx0, a_cx1, a_cx2, a_cx3, a_xf, a_pad, a_walk, a_rev, a_par, a_chain, a_chainB, w_enum, w_zipL, w_zipT, e_max, e_min, e_and, e_sumA, e_sumAT, List.reverse_cons, List.reverse_nil, List.zip_cons_cons, List.zip_nil_left, List.zip_nil_right, a_mIndex, a_fld, a_callT, a_methD, a_make, a_val, a_newD, w_enumL, w_enumT, a_apT, a_apG, a_apL, e_ixG, e_tupF, a_no0, a_no1, e_sliceL, e_sliceT, a_ins, a_cat, e_revL, List.nil_append, List.reverse_nil, subE_BadField_BadField, in_xs_0_BadField, fc_modulus_Field, fc_size_Field, fc_prime_Field, fc_degree_Field, fc_digit_rows_Field, fc_sum_rows_Field, fc_product_rows_Field, fc_negatives_Field, fc_inverses_Field, fc_step_row_Field, subXs_BadField_RankError, subXs_BadField_ValueError, subXs_BadField_BadThing, tf_m_raised_Field_Field, tf_eq_Field, e1, L]
theorem pr_4 (h : q = 2 ∨ q = 3) (hl : md.length = m + 1) (h0 : 0 < m) (h15 : m ≤ 15) (h1 : ∀ d ∈ md, d < q) (hn : q ^ m ≤ 100000) : F_products_of [.int q, .tup (nums md), .tup (rowsD q m), .tup (sumsD q m)] = .ok false (.tup (prodsD q md m)) .non := by
  have L := loop_fn (g := gN 6) (junk := [6, 7, 8, 9, 10, 11, 12, 13]) (body := L_products_of_4) (fun k => [.sh (.int q), .sh (.tup (nums md)), .sh (.tup (rowsD q m)), .sh (.tup (sumsD q m)), .sh (.int m), .ow (.lst ((List.range k).map fun a => .tupf (nums (prodRow q md m a)))), .no, .no, .no, .no, .no, .no, .no, .no]) (rowsD q m) (fun b d hb => by
    obtain ⟨hb1, rfl⟩ : b < q ^ m ∧ .tup (nums (dg q m b)) = d := by
      unfold rowsD at hb
      rw [List.getElem?_map] at hb
      cases z : (List.range (q ^ m))[b]? with
      | none => rw [z] at hb; cases hb
      | some j =>
        rw [z] at hb
        obtain ⟨hl, hj⟩ := List.getElem?_eq_some_iff.mp z
        rw [List.getElem_range] at hj
        subst hj
        exact ⟨by simpa using hl, Option.some.inj hb⟩
    have P1 := pr_1 (a := b) h hl h0 h15 h1 (.tup (rowsD q m)) (.tup (sumsD q m)) (.int m) (.tup (nums (dg q m b))) ((List.range b).map fun a => .tupf (nums (prodRow q md m a)))
    have P3 := pr_3 (a := b) h hl hn h15 (.tup (nums md)) (.tup (rowsD q m)) (.int m) (.tup (nums (dg q m b))) (.ow (.lst ((List.range b).map fun a => .tupf (nums (prodRow q md m a))))) (.ow (.lst (nums (itr q md m (dg q m b)))))
    have hll : ((List.range b).map fun a => D.tupf (nums (prodRow q md m a))).length < lim := by rw [List.length_map, List.length_range]; unfold lim; omega
    have ok1 : okR (m : Int) = true := okN (by omega)
    rw [List.range_succ, List.map_append]
    exact pr_turn L_products_of_1 L_products_of_3 ok1 (Int.toNat_natCast _) hll P1 P3)
  rw [show (rowsD q m).length = q ^ m by unfold rowsD; simp] at L
  exact pr_frame L_products_of_4 (by rw [nums_len, hl]; omega) L
end
/-! ### attributes of Field (fldgen.py) -/
theorem put_prime {d : D} : putD fa_prime "prime" d (.ins cl_Field [] []) = some (.ins cl_Field ["prime"] [d]) := (rfl)
theorem put_modulus {a0 d : D} : putD fa_modulus "modulus" d (.ins cl_Field ["prime"] [a0]) = some (.ins cl_Field ["prime", "modulus"] [a0, d]) := (rfl)
theorem put_degree {a0 a1 d : D} : putD fa_degree "degree" d (.ins cl_Field ["prime", "modulus"] [a0, a1]) = some (.ins cl_Field ["prime", "modulus", "degree"] [a0, a1, d]) := (rfl)
theorem put_size {a0 a1 a2 d : D} : putD fa_size "size" d (.ins cl_Field ["prime", "modulus", "degree"] [a0, a1, a2]) = some (.ins cl_Field ["prime", "modulus", "degree", "size"] [a0, a1, a2, d]) := (rfl)
theorem put_digit_rows {a0 a1 a2 a3 d : D} : putD fa_digit_rows "digit_rows" d (.ins cl_Field ["prime", "modulus", "degree", "size"] [a0, a1, a2, a3]) = some (.ins cl_Field ["prime", "modulus", "degree", "size", "digit_rows"] [a0, a1, a2, a3, d]) := (rfl)
theorem put_sum_rows {a0 a1 a2 a3 a4 d : D} : putD fa_sum_rows "sum_rows" d (.ins cl_Field ["prime", "modulus", "degree", "size", "digit_rows"] [a0, a1, a2, a3, a4]) = some (.ins cl_Field ["prime", "modulus", "degree", "size", "digit_rows", "sum_rows"] [a0, a1, a2, a3, a4, d]) := (rfl)
theorem put_product_rows {a0 a1 a2 a3 a4 a5 d : D} : putD fa_product_rows "product_rows" d (.ins cl_Field ["prime", "modulus", "degree", "size", "digit_rows", "sum_rows"] [a0, a1, a2, a3, a4, a5]) = some (.ins cl_Field ["prime", "modulus", "degree", "size", "digit_rows", "sum_rows", "product_rows"] [a0, a1, a2, a3, a4, a5, d]) := (rfl)
theorem put_negatives {a0 a1 a2 a3 a4 a5 a6 d : D} : putD fa_negatives "negatives" d (.ins cl_Field ["prime", "modulus", "degree", "size", "digit_rows", "sum_rows", "product_rows"] [a0, a1, a2, a3, a4, a5, a6]) = some (.ins cl_Field ["prime", "modulus", "degree", "size", "digit_rows", "sum_rows", "product_rows", "negatives"] [a0, a1, a2, a3, a4, a5, a6, d]) := (rfl)
theorem put_inverses {a0 a1 a2 a3 a4 a5 a6 a7 d : D} : putD fa_inverses "inverses" d (.ins cl_Field ["prime", "modulus", "degree", "size", "digit_rows", "sum_rows", "product_rows", "negatives"] [a0, a1, a2, a3, a4, a5, a6, a7]) = some (.ins cl_Field ["prime", "modulus", "degree", "size", "digit_rows", "sum_rows", "product_rows", "negatives", "inverses"] [a0, a1, a2, a3, a4, a5, a6, a7, d]) := (rfl)
theorem put_step_row {a0 a1 a2 a3 a4 a5 a6 a7 a8 d : D} : putD fa_step_row "step_row" d (.ins cl_Field ["prime", "modulus", "degree", "size", "digit_rows", "sum_rows", "product_rows", "negatives", "inverses"] [a0, a1, a2, a3, a4, a5, a6, a7, a8]) = some (.ins cl_Field ["prime", "modulus", "degree", "size", "digit_rows", "sum_rows", "product_rows", "negatives", "inverses", "step_row"] [a0, a1, a2, a3, a4, a5, a6, a7, a8, d]) := (rfl)
theorem get_modulus_2 {a0 a1 : D} : dFld fa_modulus "modulus" (.ins cl_Field ["prime", "modulus"] [a0, a1]) = some (.val a1) := (rfl)
theorem get_degree_3 {a0 a1 a2 : D} : dFld fa_degree "degree" (.ins cl_Field ["prime", "modulus", "degree"] [a0, a1, a2]) = some (.val a2) := (rfl)
theorem get_degree_4 {a0 a1 a2 a3 : D} : dFld fa_degree "degree" (.ins cl_Field ["prime", "modulus", "degree", "size"] [a0, a1, a2, a3]) = some (.val a2) := (rfl)
theorem get_size_4 {a0 a1 a2 a3 : D} : dFld fa_size "size" (.ins cl_Field ["prime", "modulus", "degree", "size"] [a0, a1, a2, a3]) = some (.val a3) := (rfl)
theorem get_digit_rows_5 {a0 a1 a2 a3 a4 : D} : dFld fa_digit_rows "digit_rows" (.ins cl_Field ["prime", "modulus", "degree", "size", "digit_rows"] [a0, a1, a2, a3, a4]) = some (.val a4) := (rfl)
theorem get_digit_rows_6 {a0 a1 a2 a3 a4 a5 : D} : dFld fa_digit_rows "digit_rows" (.ins cl_Field ["prime", "modulus", "degree", "size", "digit_rows", "sum_rows"] [a0, a1, a2, a3, a4, a5]) = some (.val a4) := (rfl)
theorem get_modulus_6 {a0 a1 a2 a3 a4 a5 : D} : dFld fa_modulus "modulus" (.ins cl_Field ["prime", "modulus", "degree", "size", "digit_rows", "sum_rows"] [a0, a1, a2, a3, a4, a5]) = some (.val a1) := (rfl)
theorem get_sum_rows_6 {a0 a1 a2 a3 a4 a5 : D} : dFld fa_sum_rows "sum_rows" (.ins cl_Field ["prime", "modulus", "degree", "size", "digit_rows", "sum_rows"] [a0, a1, a2, a3, a4, a5]) = some (.val a5) := (rfl)
theorem get_sum_rows_7 {a0 a1 a2 a3 a4 a5 a6 : D} : dFld fa_sum_rows "sum_rows" (.ins cl_Field ["prime", "modulus", "degree", "size", "digit_rows", "sum_rows", "product_rows"] [a0, a1, a2, a3, a4, a5, a6]) = some (.val a5) := (rfl)
theorem get_product_rows_8 {a0 a1 a2 a3 a4 a5 a6 a7 : D} : dFld fa_product_rows "product_rows" (.ins cl_Field ["prime", "modulus", "degree", "size", "digit_rows", "sum_rows", "product_rows", "negatives"] [a0, a1, a2, a3, a4, a5, a6, a7]) = some (.val a6) := (rfl)
theorem get_size_9 {a0 a1 a2 a3 a4 a5 a6 a7 a8 : D} : dFld fa_size "size" (.ins cl_Field ["prime", "modulus", "degree", "size", "digit_rows", "sum_rows", "product_rows", "negatives", "inverses"] [a0, a1, a2, a3, a4, a5, a6, a7, a8]) = some (.val a3) := (rfl)
theorem get_product_rows_9 {a0 a1 a2 a3 a4 a5 a6 a7 a8 : D} : dFld fa_product_rows "product_rows" (.ins cl_Field ["prime", "modulus", "degree", "size", "digit_rows", "sum_rows", "product_rows", "negatives", "inverses"] [a0, a1, a2, a3, a4, a5, a6, a7, a8]) = some (.val a6) := (rfl)
theorem get_prime_9 {a0 a1 a2 a3 a4 a5 a6 a7 a8 : D} : dFld fa_prime "prime" (.ins cl_Field ["prime", "modulus", "degree", "size", "digit_rows", "sum_rows", "product_rows", "negatives", "inverses"] [a0, a1, a2, a3, a4, a5, a6, a7, a8]) = some (.val a0) := (rfl)
theorem get_prime_10 {a0 a1 a2 a3 a4 a5 a6 a7 a8 a9 : D} : dFld fa_prime "prime" (.ins cl_Field ["prime", "modulus", "degree", "size", "digit_rows", "sum_rows", "product_rows", "negatives", "inverses", "step_row"] [a0, a1, a2, a3, a4, a5, a6, a7, a8, a9]) = some (.val a0) := (rfl)
theorem get_modulus_10 {a0 a1 a2 a3 a4 a5 a6 a7 a8 a9 : D} : dFld fa_modulus "modulus" (.ins cl_Field ["prime", "modulus", "degree", "size", "digit_rows", "sum_rows", "product_rows", "negatives", "inverses", "step_row"] [a0, a1, a2, a3, a4, a5, a6, a7, a8, a9]) = some (.val a1) := (rfl)
theorem get_degree_10 {a0 a1 a2 a3 a4 a5 a6 a7 a8 a9 : D} : dFld fa_degree "degree" (.ins cl_Field ["prime", "modulus", "degree", "size", "digit_rows", "sum_rows", "product_rows", "negatives", "inverses", "step_row"] [a0, a1, a2, a3, a4, a5, a6, a7, a8, a9]) = some (.val a2) := (rfl)
theorem get_size_10 {a0 a1 a2 a3 a4 a5 a6 a7 a8 a9 : D} : dFld fa_size "size" (.ins cl_Field ["prime", "modulus", "degree", "size", "digit_rows", "sum_rows", "product_rows", "negatives", "inverses", "step_row"] [a0, a1, a2, a3, a4, a5, a6, a7, a8, a9]) = some (.val a3) := (rfl)
theorem get_digit_rows_10 {a0 a1 a2 a3 a4 a5 a6 a7 a8 a9 : D} : dFld fa_digit_rows "digit_rows" (.ins cl_Field ["prime", "modulus", "degree", "size", "digit_rows", "sum_rows", "product_rows", "negatives", "inverses", "step_row"] [a0, a1, a2, a3, a4, a5, a6, a7, a8, a9]) = some (.val a4) := (rfl)
theorem get_sum_rows_10 {a0 a1 a2 a3 a4 a5 a6 a7 a8 a9 : D} : dFld fa_sum_rows "sum_rows" (.ins cl_Field ["prime", "modulus", "degree", "size", "digit_rows", "sum_rows", "product_rows", "negatives", "inverses", "step_row"] [a0, a1, a2, a3, a4, a5, a6, a7, a8, a9]) = some (.val a5) := (rfl)
theorem get_product_rows_10 {a0 a1 a2 a3 a4 a5 a6 a7 a8 a9 : D} : dFld fa_product_rows "product_rows" (.ins cl_Field ["prime", "modulus", "degree", "size", "digit_rows", "sum_rows", "product_rows", "negatives", "inverses", "step_row"] [a0, a1, a2, a3, a4, a5, a6, a7, a8, a9]) = some (.val a6) := (rfl)
theorem get_negatives_10 {a0 a1 a2 a3 a4 a5 a6 a7 a8 a9 : D} : dFld fa_negatives "negatives" (.ins cl_Field ["prime", "modulus", "degree", "size", "digit_rows", "sum_rows", "product_rows", "negatives", "inverses", "step_row"] [a0, a1, a2, a3, a4, a5, a6, a7, a8, a9]) = some (.val a7) := (rfl)
theorem get_inverses_10 {a0 a1 a2 a3 a4 a5 a6 a7 a8 a9 : D} : dFld fa_inverses "inverses" (.ins cl_Field ["prime", "modulus", "degree", "size", "digit_rows", "sum_rows", "product_rows", "negatives", "inverses", "step_row"] [a0, a1, a2, a3, a4, a5, a6, a7, a8, a9]) = some (.val a8) := (rfl)
theorem get_step_row_10 {a0 a1 a2 a3 a4 a5 a6 a7 a8 a9 : D} : dFld fa_step_row "step_row" (.ins cl_Field ["prime", "modulus", "degree", "size", "digit_rows", "sum_rows", "product_rows", "negatives", "inverses", "step_row"] [a0, a1, a2, a3, a4, a5, a6, a7, a8, a9]) = some (.val a9) := (rfl)
/-! ### Field made -/
theorem idxOf_self {x : Nat} {xs : List Nat} : (x :: xs).idxOf x = 0 := by simp [List.idxOf_cons]
theorem idxOf_ne {x z : Nat} {xs : List Nat} (h : ¬ x = z) : (x :: xs).idxOf z = xs.idxOf z + 1 := by
  rw [List.idxOf_cons, beq_false_of_ne h]; rfl
theorem idxI_nums : ∀ {l : List Nat} {z : Nat}, z ∈ l → idxI (z : Int) (l.map fun n : Nat => (n : Int)) = some (l.idxOf z)
  | [], z, h => by cases h
  | x :: xs, z, h => by
    rw [List.map_cons]
    unfold idxI
    by_cases e : x = z
    · subst e
      rw [if_pos rfl, idxOf_self]
    · rw [if_neg (by omega), idxOf_ne e]
      rcases List.mem_cons.mp h with h1 | h1
      · exact absurd h1.symm e
      · rw [idxI_nums h1]; rfl
theorem index_nums {l : List Nat} {z : Nat} (h : z ∈ l) : dIndex (.tupf (nums l)) (.int z) = some (.val (.int (l.idxOf z : Nat))) := by
  show (match toInts (nums l) with | some ns => (idxI (z : Int) ns).map fun j => Tk.val (.int (j : Nat)) | none => none) = _
  rw [toInts_nums]
  show (idxI (z : Int) _).map _ = _
  rw [idxI_nums h]; rfl
theorem power_eq {q m : Nat} (h : q = 2 ∨ q = 3) (hm : m ≤ 1000) (hn : q ^ m ≤ 100000) : F_power_of [.int q, .int m] = .ok false (.int (q ^ m : Nat)) .non := by
  have L := loop_rng (g := gN 3) (junk := [3]) (body := L_power_of_1) (fun k => [.sh (.int q), .sh (.int m), .sh (.int (q ^ k : Nat)), .no]) 0 m (fun k hk => by
    have pk : q ^ k ≤ q ^ m := Nat.pow_le_pow_right (by omega) (by omega)
    have mo : mulOk ((q ^ k : Nat) : Int) (q : Int) = true := mulOk_le (a := 20) (b := 2) (by omega) (by omega) (by omega)
    have e1 : ((q ^ k : Nat) : Int) * (q : Int) = ((q ^ (k + 1) : Nat) : Int) := by rw [Nat.pow_succ, Int.natCast_mul]
    simp only [L_power_of_1, bindR_ok, bindR_ex, a_bind, a_of_some, a_var, a_c, a_bin, a_un, a_test, a_tru, a_cmp, a_and, a_or, a_not, a_if, a_andV, a_orV, a_notV, a_bl, a_nil, a_cons, a_tup, a_lst, a_call, a_callF, a_callIO, a_seq, a_next, a_ret, a_retN, a_drop, a_break, a_cont, a_ifS, a_asg, a_asgG, a_app, a_setI, a_iter, a_rng, a_for, a_slice, a_part0, a_part1, a_lc, a_yes, l_val, l_new, l_slot, f_val, f_new, f_slot, t_val, t_new, t_slot, s_val, s_new, s_slot, a_look2, a_look1, a_fa0, a_fa1, a_la0, a_la1, a_fn1, a_fn2, a_gN, a_gs0, a_gs1, a_gT, a_turn, a_fg0, a_fg1, a_wp0, a_wp1, a_rs0, a_rs1, a_mkF, a_mkIO, a_owL, a_owD, a_tkT, a_tkF, a_apf, a_apb, a_apn, a_aps, e_addI, e_subI, e_mulI, e_divI, e_modI, e_negI, e_lt, e_le, e_gt, e_ge, e_is, e_isnot, a_lift, e_lenL, e_lenT, e_lenS, e_intI, e_intB, e_absI, e_truB, e_truI, e_truN, e_truL, e_truT, e_ixL, e_ixT, e_tupL, e_tupT, e_lstL, e_lstT, e_sum, cEq_int, cNe_int, fin_nx, fin_val, fin_new, fin_slot, fin_ex, finIO_nx, finIO_val, finIO_new, finIO_slot, finIO_ex, entry_eq, entryIO_eq, atI_0, atI_1, atI_2, atI_3, Option.map_some, List.set_cons_zero, List.set_cons_succ, List.getElem?_cons_zero, List.getElem?_cons_succ, List.getElem?_nil, List.getD_cons_zero, List.getD_cons_succ, List.map_cons, List.map_nil, List.length_cons, List.length_nil, List.length_map, List.replicate, List.cons_append, List.nil_append, Nat.reduceAdd, Nat.reduceSub, Nat.reduceLeDiff, Nat.reduceLT, Nat.zero_le, Int.reduceLT, Int.reduceLE, Int.reduceEq, Int.reduceNeg, if_true, if_false, Bool.false_eq_true, Bool.true_eq_false, reduceIte, Bool.or_true, Bool.true_or, Bool.false_or, Bool.or_false, Bool.and_true, Bool.and_false, Bool.true_and, Bool.false_and, Bool.not_true, Bool.not_false, decide_true, decide_false, decide_eq_true_eq, and_self, not_true_eq_false, not_false_eq_true, ite_self, a_try_ok, a_raise0, a_raise, a_h0, a_h1, a_en0, a_en1, a_se_nx, a_se_rt, a_lv0, a_lv1, a_un0, a_un1, a_cx0, a_cx1, a_cx2, a_cx3, a_xf, a_pad, a_walk, a_rev, a_par, a_chain, a_chainB, w_enum, w_zipL, w_zipT, e_max, e_min, e_and, e_sumA, e_sumAT, List.reverse_cons, List.reverse_nil, List.zip_cons_cons, List.zip_nil_left, List.zip_nil_right, a_mIndex, a_fld, a_callT, a_methD, a_make, a_val, a_newD, w_enumL, w_enumT, a_apT, a_apG, a_apL, e_ixG, e_tupF, a_no0, a_no1, e_sliceL, e_sliceT, a_ins, a_cat, e_revL, List.nil_append, List.reverse_nil, subE_BadField_BadField, in_xs_0_BadField, fc_modulus_Field, fc_size_Field, fc_prime_Field, fc_degree_Field, fc_digit_rows_Field, fc_sum_rows_Field, fc_product_rows_Field, fc_negatives_Field, fc_inverses_Field, fc_step_row_Field, subXs_BadField_RankError, subXs_BadField_ValueError, subXs_BadField_BadThing, tf_m_raised_Field_Field, tf_eq_Field, e_mulI mo, e1])
  have ok1 : okR (m : Int) = true := okN (by omega)
  rw [Nat.pow_zero] at L
  rw [show ((1 : Nat) : Int) = 1 from rfl] at L
  simp only [F_power_of, B_power_of, bindR_ok, bindR_ex, a_bind, a_of_some, a_var, a_c, a_bin, a_un, a_test, a_tru, a_cmp, a_and, a_or, a_not, a_if, a_andV, a_orV, a_notV, a_bl, a_nil, a_cons, a_tup, a_lst, a_call, a_callF, a_callIO, a_seq, a_next, a_ret, a_retN, a_drop, a_break, a_cont, a_ifS, a_asg, a_asgG, a_app, a_setI, a_iter, a_rng, a_for, a_slice, a_part0, a_part1, a_lc, a_yes, l_val, l_new, l_slot, f_val, f_new, f_slot, t_val, t_new, t_slot, s_val, s_new, s_slot, a_look2, a_look1, a_fa0, a_fa1, a_la0, a_la1, a_fn1, a_fn2, a_gN, a_gs0, a_gs1, a_gT, a_turn, a_fg0, a_fg1, a_wp0, a_wp1, a_rs0, a_rs1, a_mkF, a_mkIO, a_owL, a_owD, a_tkT, a_tkF, a_apf, a_apb, a_apn, a_aps, e_addI, e_subI, e_mulI, e_divI, e_modI, e_negI, e_lt, e_le, e_gt, e_ge, e_is, e_isnot, a_lift, e_lenL, e_lenT, e_lenS, e_intI, e_intB, e_absI, e_truB, e_truI, e_truN, e_truL, e_truT, e_ixL, e_ixT, e_tupL, e_tupT, e_lstL, e_lstT, e_sum, cEq_int, cNe_int, fin_nx, fin_val, fin_new, fin_slot, fin_ex, finIO_nx, finIO_val, finIO_new, finIO_slot, finIO_ex, entry_eq, entryIO_eq, atI_0, atI_1, atI_2, atI_3, Option.map_some, List.set_cons_zero, List.set_cons_succ, List.getElem?_cons_zero, List.getElem?_cons_succ, List.getElem?_nil, List.getD_cons_zero, List.getD_cons_succ, List.map_cons, List.map_nil, List.length_cons, List.length_nil, List.length_map, List.replicate, List.cons_append, List.nil_append, Nat.reduceAdd, Nat.reduceSub, Nat.reduceLeDiff, Nat.reduceLT, Nat.zero_le, Int.reduceLT, Int.reduceLE, Int.reduceEq, Int.reduceNeg, if_true, if_false, Bool.false_eq_true, Bool.true_eq_false, reduceIte, Bool.or_true, Bool.true_or, Bool.false_or, Bool.or_false, Bool.and_true, Bool.and_false, Bool.true_and, Bool.false_and, Bool.not_true, Bool.not_false, decide_true, decide_false, decide_eq_true_eq, and_self, not_true_eq_false, not_false_eq_true, ite_self, a_try_ok, a_raise0, a_raise, a_h0, a_h1, a_en0, a_en1, a_se_nx, a_se_rt, a_lv0, a_lv1, a_un0, a_un1, a_cx0, a_cx1, a_cx2, a_cx3, a_xf, a_pad, a_walk, a_rev, a_par, a_chain, a_chainB, w_enum, w_zipL, w_zipT, e_max, e_min, e_and, e_sumA, e_sumAT, List.reverse_cons, List.reverse_nil, List.zip_cons_cons, List.zip_nil_left, List.zip_nil_right, a_mIndex, a_fld, a_callT, a_methD, a_make, a_val, a_newD, w_enumL, w_enumT, a_apT, a_apG, a_apL, e_ixG, e_tupF, a_no0, a_no1, e_sliceL, e_sliceT, a_ins, a_cat, e_revL, List.nil_append, List.reverse_nil, subE_BadField_BadField, in_xs_0_BadField, fc_modulus_Field, fc_size_Field, fc_prime_Field, fc_degree_Field, fc_digit_rows_Field, fc_sum_rows_Field, fc_product_rows_Field, fc_negatives_Field, fc_inverses_Field, fc_step_row_Field, subXs_BadField_RankError, subXs_BadField_ValueError, subXs_BadField_BadThing, tf_m_raised_Field_Field, tf_eq_Field, ok1, Int.toNat_natCast, L]
def prodE (q : Nat) (md : List Nat) (m a b : Nat) : Nat := (prodRow q md m a).getD b 0
def powE (q : Nat) (md : List Nat) (m t : Nat) : Nat → Nat
  | 0 => t
  | k + 1 => prodE q md m (powE q md m t k) t
def stepE (q : Nat) (md : List Nat) (m t : Nat) : Nat := powE q md m t (q - 1)
section
variable {q m a b : Nat} {md : List Nat}
theorem prodRow_len (h : q = 2 ∨ q = 3) : (prodRow q md m a).length = q ^ m := rowP_len (by omega) m
theorem prodRow_at (h : q = 2 ∨ q = 3) (hb : b < q ^ m) : (prodRow q md m a)[b]? = some (prodE q md m a b) := by
  unfold prodE
  rw [List.getD_eq_getElem?_getD, List.getElem?_eq_getElem (by rw [prodRow_len h]; exact hb)]
  rfl
theorem prodE_lt (h : q = 2 ∨ q = 3) (hb : b < q ^ m) : prodE q md m a b < q ^ m := rowP_lt h m _ (List.mem_of_getElem? (prodRow_at h hb))
theorem prodsD_at (h : a < q ^ m) : atI (prodsD q md m) (a : Int) = some (.tupf (nums (prodRow q md m a))) := by
  refine atI_nat ?_
  unfold prodsD
  rw [List.getElem?_map, List.getElem?_range h]; rfl
theorem powE_lt (h : q = 2 ∨ q = 3) (ha : a < q ^ m) : ∀ k, powE q md m a k < q ^ m
  | 0 => ha
  | k + 1 => prodE_lt h ha
theorem raised_eq (h : q = 2 ∨ q = 3) (ha : a < q ^ m) {d : D} (h1 : dFld fa_product_rows "product_rows" d = some (.val (.tup (prodsD q md m)))) (h2 : dFld fa_prime "prime" d = some (.val (.int q))) :
    F_Field_raised [d, .int a] = .ok false (.int (stepE q md m a : Nat)) .non := by
  have L := loop_rng (g := gN 3) (junk := [3]) (body := L_Field_raised_1) (fun k => [.sh d, .sh (.int a), .sh (.int (powE q md m a k : Nat)), .no]) 0 (q - 1) (fun k hk => by
    have a1 := prodsD_at (md := md) (powE_lt h (md := md) ha k)
    have a2 := nums_at (prodRow_at (md := md) (a := powE q md m a k) h ha)
    have e1 : powE q md m a (k + 1) = prodE q md m (powE q md m a k) a := rfl
    rw [e1]
    simp only [L_Field_raised_1, bindR_ok, bindR_ex, a_bind, a_of_some, a_var, a_c, a_bin, a_un, a_test, a_tru, a_cmp, a_and, a_or, a_not, a_if, a_andV, a_orV, a_notV, a_bl, a_nil, a_cons, a_tup, a_lst, a_call, a_callF, a_callIO, a_seq, a_next, a_ret, a_retN, a_drop, a_break, a_cont, a_ifS, a_asg, a_asgG, a_app, a_setI, a_iter, a_rng, a_for, a_slice, a_part0, a_part1, a_lc, a_yes, l_val, l_new, l_slot, f_val, f_new, f_slot, t_val, t_new, t_slot, s_val, s_new, s_slot, a_look2, a_look1, a_fa0, a_fa1, a_la0, a_la1, a_fn1, a_fn2, a_gN, a_gs0, a_gs1, a_gT, a_turn, a_fg0, a_fg1, a_wp0, a_wp1, a_rs0, a_rs1, a_mkF, a_mkIO, a_owL, a_owD, a_tkT, a_tkF, a_apf, a_apb, a_apn, a_aps, e_addI, e_subI, e_mulI, e_divI, e_modI, e_negI, e_lt, e_le, e_gt, e_ge, e_is, e_isnot, a_lift, e_lenL, e_lenT, e_lenS, e_intI, e_intB, e_absI, e_truB, e_truI, e_truN, e_truL, e_truT, e_ixL, e_ixT, e_tupL, e_tupT, e_lstL, e_lstT, e_sum, cEq_int, cNe_int, fin_nx, fin_val, fin_new, fin_slot, fin_ex, finIO_nx, finIO_val, finIO_new, finIO_slot, finIO_ex, entry_eq, entryIO_eq, atI_0, atI_1, atI_2, atI_3, Option.map_some, List.set_cons_zero, List.set_cons_succ, List.getElem?_cons_zero, List.getElem?_cons_succ, List.getElem?_nil, List.getD_cons_zero, List.getD_cons_succ, List.map_cons, List.map_nil, List.length_cons, List.length_nil, List.length_map, List.replicate, List.cons_append, List.nil_append, Nat.reduceAdd, Nat.reduceSub, Nat.reduceLeDiff, Nat.reduceLT, Nat.zero_le, Int.reduceLT, Int.reduceLE, Int.reduceEq, Int.reduceNeg, if_true, if_false, Bool.false_eq_true, Bool.true_eq_false, reduceIte, Bool.or_true, Bool.true_or, Bool.false_or, Bool.or_false, Bool.and_true, Bool.and_false, Bool.true_and, Bool.false_and, Bool.not_true, Bool.not_false, decide_true, decide_false, decide_eq_true_eq, and_self, not_true_eq_false, not_false_eq_true, ite_self, a_try_ok, a_raise0, a_raise, a_h0, a_h1, a_en0, a_en1, a_se_nx, a_se_rt, a_lv0, a_lv1, a_un0, a_un1, a_cx0, a_cx1, a_cx2, a_cx3, a_xf, a_pad, a_walk, a_rev, a_par, a_chain, a_chainB, w_enum, w_zipL, w_zipT, e_max, e_min, e_and, e_sumA, e_sumAT, List.reverse_cons, List.reverse_nil, List.zip_cons_cons, List.zip_nil_left, List.zip_nil_right, a_mIndex, a_fld, a_callT, a_methD, a_make, a_val, a_newD, w_enumL, w_enumT, a_apT, a_apG, a_apL, e_ixG, e_tupF, a_no0, a_no1, e_sliceL, e_sliceT, a_ins, a_cat, e_revL, List.nil_append, List.reverse_nil, subE_BadField_BadField, in_xs_0_BadField, fc_modulus_Field, fc_size_Field, fc_prime_Field, fc_degree_Field, fc_digit_rows_Field, fc_sum_rows_Field, fc_product_rows_Field, fc_negatives_Field, fc_inverses_Field, fc_step_row_Field, subXs_BadField_RankError, subXs_BadField_ValueError, subXs_BadField_BadThing, tf_m_raised_Field_Field, tf_eq_Field, h1, a1, a2])
  have e1 : ((q : Int) - 1).toNat = q - 1 := by omega
  have ok1 : okR ((q : Int) - 1) = true := okR_of (by omega)
  have e0 : powE q md m a 0 = a := rfl
  rw [e0] at L
  simp only [F_Field_raised, B_Field_raised, bindR_ok, bindR_ex, a_bind, a_of_some, a_var, a_c, a_bin, a_un, a_test, a_tru, a_cmp, a_and, a_or, a_not, a_if, a_andV, a_orV, a_notV, a_bl, a_nil, a_cons, a_tup, a_lst, a_call, a_callF, a_callIO, a_seq, a_next, a_ret, a_retN, a_drop, a_break, a_cont, a_ifS, a_asg, a_asgG, a_app, a_setI, a_iter, a_rng, a_for, a_slice, a_part0, a_part1, a_lc, a_yes, l_val, l_new, l_slot, f_val, f_new, f_slot, t_val, t_new, t_slot, s_val, s_new, s_slot, a_look2, a_look1, a_fa0, a_fa1, a_la0, a_la1, a_fn1, a_fn2, a_gN, a_gs0, a_gs1, a_gT, a_turn, a_fg0, a_fg1, a_wp0, a_wp1, a_rs0, a_rs1, a_mkF, a_mkIO, a_owL, a_owD, a_tkT, a_tkF, a_apf, a_apb, a_apn, a_aps, e_addI, e_subI, e_mulI, e_divI, e_modI, e_negI, e_lt, e_le, e_gt, e_ge, e_is, e_isnot, a_lift, e_lenL, e_lenT, e_lenS, e_intI, e_intB, e_absI, e_truB, e_truI, e_truN, e_truL, e_truT, e_ixL, e_ixT, e_tupL, e_tupT, e_lstL, e_lstT, e_sum, cEq_int, cNe_int, fin_nx, fin_val, fin_new, fin_slot, fin_ex, finIO_nx, finIO_val, finIO_new, finIO_slot, finIO_ex, entry_eq, entryIO_eq, atI_0, atI_1, atI_2, atI_3, Option.map_some, List.set_cons_zero, List.set_cons_succ, List.getElem?_cons_zero, List.getElem?_cons_succ, List.getElem?_nil, List.getD_cons_zero, List.getD_cons_succ, List.map_cons, List.map_nil, List.length_cons, List.length_nil, List.length_map, List.replicate, List.cons_append, List.nil_append, Nat.reduceAdd, Nat.reduceSub, Nat.reduceLeDiff, Nat.reduceLT, Nat.zero_le, Int.reduceLT, Int.reduceLE, Int.reduceEq, Int.reduceNeg, if_true, if_false, Bool.false_eq_true, Bool.true_eq_false, reduceIte, Bool.or_true, Bool.true_or, Bool.false_or, Bool.or_false, Bool.and_true, Bool.and_false, Bool.true_and, Bool.false_and, Bool.not_true, Bool.not_false, decide_true, decide_false, decide_eq_true_eq, and_self, not_true_eq_false, not_false_eq_true, ite_self, a_try_ok, a_raise0, a_raise, a_h0, a_h1, a_en0, a_en1, a_se_nx, a_se_rt, a_lv0, a_lv1, a_un0, a_un1, a_cx0, a_cx1, a_cx2, a_cx3, a_xf, a_pad, a_walk, a_rev, a_par, a_chain, a_chainB, w_enum, w_zipL, w_zipT, e_max, e_min, e_and, e_sumA, e_sumAT, List.reverse_cons, List.reverse_nil, List.zip_cons_cons, List.zip_nil_left, List.zip_nil_right, a_mIndex, a_fld, a_callT, a_methD, a_make, a_val, a_newD, w_enumL, w_enumT, a_apT, a_apG, a_apL, e_ixG, e_tupF, a_no0, a_no1, e_sliceL, e_sliceT, a_ins, a_cat, e_revL, List.nil_append, List.reverse_nil, subE_BadField_BadField, in_xs_0_BadField, fc_modulus_Field, fc_size_Field, fc_prime_Field, fc_degree_Field, fc_digit_rows_Field, fc_sum_rows_Field, fc_product_rows_Field, fc_negatives_Field, fc_inverses_Field, fc_step_row_Field, subXs_BadField_RankError, subXs_BadField_ValueError, subXs_BadField_BadThing, tf_m_raised_Field_Field, tf_eq_Field, h2, e1, ok1, L]
  rfl
end
def negE (q m a : Nat) : Nat := (sumRow q m a).idxOf 0
def invE (q : Nat) (md : List Nat) (m a : Nat) : Nat := (prodRow q md m a).idxOf 1
def negRow (q m : Nat) : List Nat := (List.range (q ^ m)).map (negE q m)
def invRow (q : Nat) (md : List Nat) (m : Nat) : List Nat := 0 :: (List.range (q ^ m - 1)).map fun i => invE q md m (i + 1)
def stepRow (q : Nat) (md : List Nat) (m : Nat) : List Nat := (List.range (q ^ m)).map (stepE q md m)
def fieldD (q : Nat) (md : List Nat) (m : Nat) : D := .ins cl_Field ["prime", "modulus", "degree", "size", "digit_rows", "sum_rows", "product_rows", "negatives", "inverses", "step_row"]
  [.int q, .tup (nums md), .int m, .int (q ^ m : Nat), .tup (rowsD q m), .tup (sumsD q m), .tup (prodsD q md m), .tup (nums (negRow q m)), .tup (nums (invRow q md m)), .tup (nums (stepRow q md m))]
/-- each row of sums has 0, each row of products but the first has 1 -/
def invOk (q : Nat) (md : List Nat) (m : Nat) : Prop := (∀ a, a < q ^ m → 0 ∈ sumRow q m a) ∧ ∀ a, a < q ^ m → 0 < a → 1 ∈ prodRow q md m a
def SeqD (d : D) (xs : List D) : Prop := d = .lst xs ∨ d = .tup xs
theorem init_frame (Ff Fp Fs Fr : List D → Rf) (el1 el2 el3 el4 : M Tk) {q z : D} {mds rows sums prods negs inv1 invs steps cut : List D} {m n : Int} {k : Nat}
    (hf : Ff [q, z] = .ok false .non .non) (tz : dTuple z = some (.val (.tup mds))) (e1 : (mds.length : Int) - 1 = m) (pw : Fp [q, .int m] = .ok false (.int n) .non) (ok1 : okR n = true) (tn : n.toNat = k)
    (su : Fs [q, .tup rows] = .ok false (.tup sums) .non) (pr : Fr [q, .tup mds, .tup rows, .tup sums] = .ok false (.tup prods) .non)
    (C1 : mLcLoop (gN 4) [4] mYes el1 (rngD 0 k) [] [.ow (.ins cl_Field ["prime", "modulus", "degree", "size"] [q, .tup mds, .int m, .int n]), .sh q, .sh z, .sh .non, .no, .no] = .ok rows [.ow (.ins cl_Field ["prime", "modulus", "degree", "size"] [q, .tup mds, .int m, .int n]), .sh q, .sh z, .sh .non, .no, .no])
    (C2 : mLcLoop (gN 5) [5] mYes el2 sums [] [.ow (.ins cl_Field ["prime", "modulus", "degree", "size", "digit_rows", "sum_rows", "product_rows"] [q, .tup mds, .int m, .int n, .tup rows, .tup sums, .tup prods]), .sh q, .sh z, .sh .non, .no, .no] = .ok negs [.ow (.ins cl_Field ["prime", "modulus", "degree", "size", "digit_rows", "sum_rows", "product_rows"] [q, .tup mds, .int m, .int n, .tup rows, .tup sums, .tup prods]), .sh q, .sh z, .sh .non, .no, .no])
    (cc : cutD prods (some 1) none = cut)
    (C3 : mLcLoop (gN 5) [5] mYes el3 cut [] [.ow (.ins cl_Field ["prime", "modulus", "degree", "size", "digit_rows", "sum_rows", "product_rows", "negatives"] [q, .tup mds, .int m, .int n, .tup rows, .tup sums, .tup prods, .tup negs]), .sh q, .sh z, .sh .non, .no, .no] = .ok inv1 [.ow (.ins cl_Field ["prime", "modulus", "degree", "size", "digit_rows", "sum_rows", "product_rows", "negatives"] [q, .tup mds, .int m, .int n, .tup rows, .tup sums, .tup prods, .tup negs]), .sh q, .sh z, .sh .non, .no, .no])
    (ad : dAdd (.tup [.int 0]) (.tup inv1) = some (.val (.tup invs)))
    (C4 : mLcLoop (gN 4) [4] mYes el4 (rngD 0 k) [] [.ow (.ins cl_Field ["prime", "modulus", "degree", "size", "digit_rows", "sum_rows", "product_rows", "negatives", "inverses"] [q, .tup mds, .int m, .int n, .tup rows, .tup sums, .tup prods, .tup negs, .tup invs]), .sh q, .sh z, .sh .non, .no, .no] = .ok steps [.ow (.ins cl_Field ["prime", "modulus", "degree", "size", "digit_rows", "sum_rows", "product_rows", "negatives", "inverses"] [q, .tup mds, .int m, .int n, .tup rows, .tup sums, .tup prods, .tup negs, .tup invs]), .sh q, .sh z, .sh .non, .no, .no]) :
    mkIO 6 (mSeq (mAsg 3 (mCallF Ff (mCons (mVar 1) (mCons (mVar 2) mNil))))
  (mSeq (mIfS (mCmp cIsNot (mVar 3) (mC .non)) (mRaise cl_BadField ["what"] (mCons (mVar 3) mNil)) mNext)
  (mSeq (mFld 0 fa_prime "prime" (mVar 1))
  (mSeq (mFld 0 fa_modulus "modulus" (mCall (fn1 dTuple) (mCons (mVar 2) mNil)))
  (mSeq (mFld 0 fa_degree "degree" (mBin dSub (mCall (fn1 dLen) (mCons (mUn (dFld fa_modulus "modulus") (mVar 0)) mNil)) (mC (.int 1))))
  (mSeq (mFld 0 fa_size "size" (mCallF Fp (mCons (mVar 1) (mCons (mUn (dFld fa_degree "degree") (mVar 0)) mNil))))
  (mSeq (mFld 0 fa_digit_rows "digit_rows" (mCall (fn1 dTuple) (mCons (mLc (mRng (mCons (mUn (dFld fa_size "size") (mVar 0)) mNil)) (gN 4) [4] mYes el1) mNil)))
  (mSeq (mFld 0 fa_sum_rows "sum_rows" (mCallF Fs (mCons (mVar 1) (mCons (mUn (dFld fa_digit_rows "digit_rows") (mVar 0)) mNil))))
  (mSeq (mFld 0 fa_product_rows "product_rows" (mCallF Fr (mCons (mVar 1) (mCons (mUn (dFld fa_modulus "modulus") (mVar 0)) (mCons (mUn (dFld fa_digit_rows "digit_rows") (mVar 0)) (mCons (mUn (dFld fa_sum_rows "sum_rows") (mVar 0)) mNil))))))
  (mSeq (mFld 0 fa_negatives "negatives" (mCall (fn1 dTuple) (mCons (mLc (mIter (mUn (dFld fa_sum_rows "sum_rows") (mVar 0))) (gN 5) [5] mYes el2) mNil)))
  (mSeq (mFld 0 fa_inverses "inverses" (mBin dAdd (mTup (mCons (mC (.int 0)) mNil)) (mCall (fn1 dTuple) (mCons (mLc (mIter (mSlice (mUn (dFld fa_product_rows "product_rows") (mVar 0)) (mPart (some (mC (.int 1)))) (mPart none))) (gN 5) [5] mYes el3) mNil))))
  (mFld 0 fa_step_row "step_row" (mCall (fn1 dTuple) (mCons (mLc (mRng (mCons (mUn (dFld fa_size "size") (mVar 0)) mNil)) (gN 4) [4] mYes el4) mNil)))))))))))))) [.ins cl_Field [] [], q, z] = .ok false .non (.ins cl_Field ["prime", "modulus", "degree", "size", "digit_rows", "sum_rows", "product_rows", "negatives", "inverses", "step_row"] [q, .tup mds, .int m, .int n, .tup rows, .tup sums, .tup prods, .tup negs, .tup invs, .tup steps]) := by
  simp only [bindR_ok, bindR_ex, a_bind, a_of_some, a_var, a_c, a_bin, a_un, a_test, a_tru, a_cmp, a_and, a_or, a_not, a_if, a_andV, a_orV, a_notV, a_bl, a_nil, a_cons, a_tup, a_lst, a_call, a_callF, a_callIO, a_seq, a_next, a_ret, a_retN, a_drop, a_break, a_cont, a_ifS, a_asg, a_asgG, a_app, a_setI, a_iter, a_rng, a_for, a_slice, a_part0, a_part1, a_lc, a_yes, l_val, l_new, l_slot, f_val, f_new, f_slot, t_val, t_new, t_slot, s_val, s_new, s_slot, a_look2, a_look1, a_fa0, a_fa1, a_la0, a_la1, a_fn1, a_fn2, a_gN, a_gs0, a_gs1, a_gT, a_turn, a_fg0, a_fg1, a_wp0, a_wp1, a_rs0, a_rs1, a_mkF, a_mkIO, a_owL, a_owD, a_tkT, a_tkF, a_apf, a_apb, a_apn, a_aps, e_addI, e_subI, e_mulI, e_divI, e_modI, e_negI, e_lt, e_le, e_gt, e_ge, e_is, e_isnot, a_lift, e_lenL, e_lenT, e_lenS, e_intI, e_intB, e_absI, e_truB, e_truI, e_truN, e_truL, e_truT, e_ixL, e_ixT, e_tupL, e_tupT, e_lstL, e_lstT, e_sum, cEq_int, cNe_int, fin_nx, fin_val, fin_new, fin_slot, fin_ex, finIO_nx, finIO_val, finIO_new, finIO_slot, finIO_ex, entry_eq, entryIO_eq, atI_0, atI_1, atI_2, atI_3, Option.map_some, List.set_cons_zero, List.set_cons_succ, List.getElem?_cons_zero, List.getElem?_cons_succ, List.getElem?_nil, List.getD_cons_zero, List.getD_cons_succ, List.map_cons, List.map_nil, List.length_cons, List.length_nil, List.length_map, List.replicate, List.cons_append, List.nil_append, Nat.reduceAdd, Nat.reduceSub, Nat.reduceLeDiff, Nat.reduceLT, Nat.zero_le, Int.reduceLT, Int.reduceLE, Int.reduceEq, Int.reduceNeg, if_true, if_false, Bool.false_eq_true, Bool.true_eq_false, reduceIte, Bool.or_true, Bool.true_or, Bool.false_or, Bool.or_false, Bool.and_true, Bool.and_false, Bool.true_and, Bool.false_and, Bool.not_true, Bool.not_false, decide_true, decide_false, decide_eq_true_eq, and_self, not_true_eq_false, not_false_eq_true, ite_self, a_try_ok, a_raise0, a_raise, a_h0, a_h1, a_en0, a_en1, a_se_nx, a_se_rt, a_lv0, a_lv1, a_un0, a_un1, a_cx0, a_cx1, a_cx2, a_cx3, a_xf, a_pad, a_walk, a_rev, a_par, a_chain, a_chainB, w_enum, w_zipL, w_zipT, e_max, e_min, e_and, e_sumA, e_sumAT, List.reverse_cons, List.reverse_nil, List.zip_cons_cons, List.zip_nil_left, List.zip_nil_right, a_mIndex, a_fld, a_callT, a_methD, a_make, a_val, a_newD, w_enumL, w_enumT, a_apT, a_apG, a_apL, e_ixG, e_tupF, a_no0, a_no1, e_sliceL, e_sliceT, a_ins, a_cat, e_revL, List.nil_append, List.reverse_nil, subE_BadField_BadField, in_xs_0_BadField, fc_modulus_Field, fc_size_Field, fc_prime_Field, fc_degree_Field, fc_digit_rows_Field, fc_sum_rows_Field, fc_product_rows_Field, fc_negatives_Field, fc_inverses_Field, fc_step_row_Field, subXs_BadField_RankError, subXs_BadField_ValueError, subXs_BadField_BadThing, tf_m_raised_Field_Field, tf_eq_Field, put_prime, put_modulus, put_degree, put_size, put_digit_rows, put_sum_rows, put_product_rows, put_negatives, put_inverses, put_step_row, get_modulus_2, get_degree_3, get_degree_4, get_size_4, get_digit_rows_5, get_digit_rows_6, get_modulus_6, get_sum_rows_6, get_sum_rows_7, get_product_rows_8, get_size_9, get_product_rows_9, get_prime_9, get_prime_10, get_modulus_10, get_degree_10, get_size_10, get_digit_rows_10, get_sum_rows_10, get_product_rows_10, get_negatives_10, get_inverses_10, get_step_row_10, hf, D.isN, tz, e1, pw, ok1, tn, C1, C2, cc, C3, ad, C4, su, pr]
section
variable {q m : Nat} {md : List Nat} {d z : D}
theorem C1t (FF : List D → Rf) {u x1 x2 x3 x4 : D} (hd : dFld fa_degree "degree" d = some (.val x2)) (B : FF [x1, x2, x4] = .ok false u .non) : mCallF FF (mCons (mVar 1) (mCons (mUn (dFld fa_degree "degree") (mVar 0)) (mCons (mVar 4) mNil))) [.ow d, .sh x1, .sh z, .sh x3, .sh x4, .no] = .ok (.val u) [.ow d, .sh x1, .sh z, .sh x3, .sh x4, .no] := by
  simp only [bindR_ok, bindR_ex, a_bind, a_of_some, a_var, a_c, a_bin, a_un, a_test, a_tru, a_cmp, a_and, a_or, a_not, a_if, a_andV, a_orV, a_notV, a_bl, a_nil, a_cons, a_tup, a_lst, a_call, a_callF, a_callIO, a_seq, a_next, a_ret, a_retN, a_drop, a_break, a_cont, a_ifS, a_asg, a_asgG, a_app, a_setI, a_iter, a_rng, a_for, a_slice, a_part0, a_part1, a_lc, a_yes, l_val, l_new, l_slot, f_val, f_new, f_slot, t_val, t_new, t_slot, s_val, s_new, s_slot, a_look2, a_look1, a_fa0, a_fa1, a_la0, a_la1, a_fn1, a_fn2, a_gN, a_gs0, a_gs1, a_gT, a_turn, a_fg0, a_fg1, a_wp0, a_wp1, a_rs0, a_rs1, a_mkF, a_mkIO, a_owL, a_owD, a_tkT, a_tkF, a_apf, a_apb, a_apn, a_aps, e_addI, e_subI, e_mulI, e_divI, e_modI, e_negI, e_lt, e_le, e_gt, e_ge, e_is, e_isnot, a_lift, e_lenL, e_lenT, e_lenS, e_intI, e_intB, e_absI, e_truB, e_truI, e_truN, e_truL, e_truT, e_ixL, e_ixT, e_tupL, e_tupT, e_lstL, e_lstT, e_sum, cEq_int, cNe_int, fin_nx, fin_val, fin_new, fin_slot, fin_ex, finIO_nx, finIO_val, finIO_new, finIO_slot, finIO_ex, entry_eq, entryIO_eq, atI_0, atI_1, atI_2, atI_3, Option.map_some, List.set_cons_zero, List.set_cons_succ, List.getElem?_cons_zero, List.getElem?_cons_succ, List.getElem?_nil, List.getD_cons_zero, List.getD_cons_succ, List.map_cons, List.map_nil, List.length_cons, List.length_nil, List.length_map, List.replicate, List.cons_append, List.nil_append, Nat.reduceAdd, Nat.reduceSub, Nat.reduceLeDiff, Nat.reduceLT, Nat.zero_le, Int.reduceLT, Int.reduceLE, Int.reduceEq, Int.reduceNeg, if_true, if_false, Bool.false_eq_true, Bool.true_eq_false, reduceIte, Bool.or_true, Bool.true_or, Bool.false_or, Bool.or_false, Bool.and_true, Bool.and_false, Bool.true_and, Bool.false_and, Bool.not_true, Bool.not_false, decide_true, decide_false, decide_eq_true_eq, and_self, not_true_eq_false, not_false_eq_true, ite_self, a_try_ok, a_raise0, a_raise, a_h0, a_h1, a_en0, a_en1, a_se_nx, a_se_rt, a_lv0, a_lv1, a_un0, a_un1, a_cx0, a_cx1, a_cx2, a_cx3, a_xf, a_pad, a_walk, a_rev, a_par, a_chain, a_chainB, w_enum, w_zipL, w_zipT, e_max, e_min, e_and, e_sumA, e_sumAT, List.reverse_cons, List.reverse_nil, List.zip_cons_cons, List.zip_nil_left, List.zip_nil_right, a_mIndex, a_fld, a_callT, a_methD, a_make, a_val, a_newD, w_enumL, w_enumT, a_apT, a_apG, a_apL, e_ixG, e_tupF, a_no0, a_no1, e_sliceL, e_sliceT, a_ins, a_cat, e_revL, List.nil_append, List.reverse_nil, subE_BadField_BadField, in_xs_0_BadField, fc_modulus_Field, fc_size_Field, fc_prime_Field, fc_degree_Field, fc_digit_rows_Field, fc_sum_rows_Field, fc_product_rows_Field, fc_negatives_Field, fc_inverses_Field, fc_step_row_Field, subXs_BadField_RankError, subXs_BadField_ValueError, subXs_BadField_BadThing, tf_m_raised_Field_Field, tf_eq_Field, hd, B, ite_self]
theorem C4t (FF : List D → Rf) {u x1 x3 x4 : D} {tab : Tab} (hu : apart false u = true) (M : methF "raised" tab d = some FF) (B : FF [d, x4] = .ok false u .non) : mMeth "raised" tab (mVar 0) (mCons (mVar 4) mNil) [.ow d, .sh x1, .sh z, .sh x3, .sh x4, .no] = .ok (.val u) [.ow d, .sh x1, .sh z, .sh x3, .sh x4, .no] := by
  simp only [bindR_ok, bindR_ex, a_bind, a_of_some, a_var, a_c, a_bin, a_un, a_test, a_tru, a_cmp, a_and, a_or, a_not, a_if, a_andV, a_orV, a_notV, a_bl, a_nil, a_cons, a_tup, a_lst, a_call, a_callF, a_callIO, a_seq, a_next, a_ret, a_retN, a_drop, a_break, a_cont, a_ifS, a_asg, a_asgG, a_app, a_setI, a_iter, a_rng, a_for, a_slice, a_part0, a_part1, a_lc, a_yes, l_val, l_new, l_slot, f_val, f_new, f_slot, t_val, t_new, t_slot, s_val, s_new, s_slot, a_look2, a_look1, a_fa0, a_fa1, a_la0, a_la1, a_fn1, a_fn2, a_gN, a_gs0, a_gs1, a_gT, a_turn, a_fg0, a_fg1, a_wp0, a_wp1, a_rs0, a_rs1, a_mkF, a_mkIO, a_owL, a_owD, a_tkT, a_tkF, a_apf, a_apb, a_apn, a_aps, e_addI, e_subI, e_mulI, e_divI, e_modI, e_negI, e_lt, e_le, e_gt, e_ge, e_is, e_isnot, a_lift, e_lenL, e_lenT, e_lenS, e_intI, e_intB, e_absI, e_truB, e_truI, e_truN, e_truL, e_truT, e_ixL, e_ixT, e_tupL, e_tupT, e_lstL, e_lstT, e_sum, cEq_int, cNe_int, fin_nx, fin_val, fin_new, fin_slot, fin_ex, finIO_nx, finIO_val, finIO_new, finIO_slot, finIO_ex, entry_eq, entryIO_eq, atI_0, atI_1, atI_2, atI_3, Option.map_some, List.set_cons_zero, List.set_cons_succ, List.getElem?_cons_zero, List.getElem?_cons_succ, List.getElem?_nil, List.getD_cons_zero, List.getD_cons_succ, List.map_cons, List.map_nil, List.length_cons, List.length_nil, List.length_map, List.replicate, List.cons_append, List.nil_append, Nat.reduceAdd, Nat.reduceSub, Nat.reduceLeDiff, Nat.reduceLT, Nat.zero_le, Int.reduceLT, Int.reduceLE, Int.reduceEq, Int.reduceNeg, if_true, if_false, Bool.false_eq_true, Bool.true_eq_false, reduceIte, Bool.or_true, Bool.true_or, Bool.false_or, Bool.or_false, Bool.and_true, Bool.and_false, Bool.true_and, Bool.false_and, Bool.not_true, Bool.not_false, decide_true, decide_false, decide_eq_true_eq, and_self, not_true_eq_false, not_false_eq_true, ite_self, a_try_ok, a_raise0, a_raise, a_h0, a_h1, a_en0, a_en1, a_se_nx, a_se_rt, a_lv0, a_lv1, a_un0, a_un1, a_cx0, a_cx1, a_cx2, a_cx3, a_xf, a_pad, a_walk, a_rev, a_par, a_chain, a_chainB, w_enum, w_zipL, w_zipT, e_max, e_min, e_and, e_sumA, e_sumAT, List.reverse_cons, List.reverse_nil, List.zip_cons_cons, List.zip_nil_left, List.zip_nil_right, a_mIndex, a_fld, a_callT, a_methD, a_make, a_val, a_newD, w_enumL, w_enumT, a_apT, a_apG, a_apL, e_ixG, e_tupF, a_no0, a_no1, e_sliceL, e_sliceT, a_ins, a_cat, e_revL, List.nil_append, List.reverse_nil, subE_BadField_BadField, in_xs_0_BadField, fc_modulus_Field, fc_size_Field, fc_prime_Field, fc_degree_Field, fc_digit_rows_Field, fc_sum_rows_Field, fc_product_rows_Field, fc_negatives_Field, fc_inverses_Field, fc_step_row_Field, subXs_BadField_RankError, subXs_BadField_ValueError, subXs_BadField_BadThing, tf_m_raised_Field_Field, tf_eq_Field, M, B, hu]
theorem C1g (h : q = 2 ∨ q = 3) (h15 : m ≤ 15) (hn : q ^ m ≤ 100000) (hd : dFld fa_degree "degree" d = some (.val (.int m))) : mLcLoop (gN 4) [4] mYes L_Field___init___1 (rngD 0 (q ^ m)) [] [.ow d, .sh (.int q), .sh z, .sh .non, .no, .no] = .ok (rowsD q m) [.ow d, .sh (.int q), .sh z, .sh .non, .no, .no] := by
  rw [rngD_map]
  exact lc_each (fun i : Nat => .int (0 + (i : Int))) (fun t : Nat => .tup (nums (dg q m t))) (List.range (q ^ m)) (by rw [List.length_range]; unfold lim; omega) fun a ha => ⟨_, _, _, _, _, by
      simp only [bindR_ok, bindR_ex, a_bind, a_of_some, a_var, a_c, a_bin, a_un, a_test, a_tru, a_cmp, a_and, a_or, a_not, a_if, a_andV, a_orV, a_notV, a_bl, a_nil, a_cons, a_tup, a_lst, a_call, a_callF, a_callIO, a_seq, a_next, a_ret, a_retN, a_drop, a_break, a_cont, a_ifS, a_asg, a_asgG, a_app, a_setI, a_iter, a_rng, a_for, a_slice, a_part0, a_part1, a_lc, a_yes, l_val, l_new, l_slot, f_val, f_new, f_slot, t_val, t_new, t_slot, s_val, s_new, s_slot, a_look2, a_look1, a_fa0, a_fa1, a_la0, a_la1, a_fn1, a_fn2, a_gN, a_gs0, a_gs1, a_gT, a_turn, a_fg0, a_fg1, a_wp0, a_wp1, a_rs0, a_rs1, a_mkF, a_mkIO, a_owL, a_owD, a_tkT, a_tkF, a_apf, a_apb, a_apn, a_aps, e_addI, e_subI, e_mulI, e_divI, e_modI, e_negI, e_lt, e_le, e_gt, e_ge, e_is, e_isnot, a_lift, e_lenL, e_lenT, e_lenS, e_intI, e_intB, e_absI, e_truB, e_truI, e_truN, e_truL, e_truT, e_ixL, e_ixT, e_tupL, e_tupT, e_lstL, e_lstT, e_sum, cEq_int, cNe_int, fin_nx, fin_val, fin_new, fin_slot, fin_ex, finIO_nx, finIO_val, finIO_new, finIO_slot, finIO_ex, entry_eq, entryIO_eq, atI_0, atI_1, atI_2, atI_3, Option.map_some, List.set_cons_zero, List.set_cons_succ, List.getElem?_cons_zero, List.getElem?_cons_succ, List.getElem?_nil, List.getD_cons_zero, List.getD_cons_succ, List.map_cons, List.map_nil, List.length_cons, List.length_nil, List.length_map, List.replicate, List.cons_append, List.nil_append, Nat.reduceAdd, Nat.reduceSub, Nat.reduceLeDiff, Nat.reduceLT, Nat.zero_le, Int.reduceLT, Int.reduceLE, Int.reduceEq, Int.reduceNeg, if_true, if_false, Bool.false_eq_true, Bool.true_eq_false, reduceIte, Bool.or_true, Bool.true_or, Bool.false_or, Bool.or_false, Bool.and_true, Bool.and_false, Bool.true_and, Bool.false_and, Bool.not_true, Bool.not_false, decide_true, decide_false, decide_eq_true_eq, and_self, not_true_eq_false, not_false_eq_true, ite_self, a_try_ok, a_raise0, a_raise, a_h0, a_h1, a_en0, a_en1, a_se_nx, a_se_rt, a_lv0, a_lv1, a_un0, a_un1, a_cx0, a_cx1, a_cx2, a_cx3, a_xf, a_pad, a_walk, a_rev, a_par, a_chain, a_chainB, w_enum, w_zipL, w_zipT, e_max, e_min, e_and, e_sumA, e_sumAT, List.reverse_cons, List.reverse_nil, List.zip_cons_cons, List.zip_nil_left, List.zip_nil_right, a_mIndex, a_fld, a_callT, a_methD, a_make, a_val, a_newD, w_enumL, w_enumT, a_apT, a_apG, a_apL, e_ixG, e_tupF, a_no0, a_no1, e_sliceL, e_sliceT, a_ins, a_cat, e_revL, List.nil_append, List.reverse_nil, subE_BadField_BadField, in_xs_0_BadField, fc_modulus_Field, fc_size_Field, fc_prime_Field, fc_degree_Field, fc_digit_rows_Field, fc_sum_rows_Field, fc_product_rows_Field, fc_negatives_Field, fc_inverses_Field, fc_step_row_Field, subXs_BadField_RankError, subXs_BadField_ValueError, subXs_BadField_BadThing, tf_m_raised_Field_Field, tf_eq_Field]; rfl, rfl, by
      rw [Int.zero_add]
      exact C1t F_base_digits hd (base_digits_eq h (show m ≤ 1000 by omega)), f_val, rfl⟩
theorem C2g (hn : q ^ m ≤ 100000) (hi : ∀ a, a < q ^ m → 0 ∈ sumRow q m a) : mLcLoop (gN 5) [5] mYes L_Field___init___2 (sumsD q m) [] [.ow d, .sh (.int q), .sh z, .sh .non, .no, .no] = .ok (nums (negRow q m)) [.ow d, .sh (.int q), .sh z, .sh .non, .no, .no] := by
  unfold negRow
  rw [nums_map]
  exact lc_each (fun a : Nat => .tupf (nums (sumRow q m a))) (fun t : Nat => .int (negE q m t : Nat)) (List.range (q ^ m)) (by rw [List.length_range]; unfold lim; omega) fun a ha => ⟨_, _, _, _, _, by
      simp only [bindR_ok, bindR_ex, a_bind, a_of_some, a_var, a_c, a_bin, a_un, a_test, a_tru, a_cmp, a_and, a_or, a_not, a_if, a_andV, a_orV, a_notV, a_bl, a_nil, a_cons, a_tup, a_lst, a_call, a_callF, a_callIO, a_seq, a_next, a_ret, a_retN, a_drop, a_break, a_cont, a_ifS, a_asg, a_asgG, a_app, a_setI, a_iter, a_rng, a_for, a_slice, a_part0, a_part1, a_lc, a_yes, l_val, l_new, l_slot, f_val, f_new, f_slot, t_val, t_new, t_slot, s_val, s_new, s_slot, a_look2, a_look1, a_fa0, a_fa1, a_la0, a_la1, a_fn1, a_fn2, a_gN, a_gs0, a_gs1, a_gT, a_turn, a_fg0, a_fg1, a_wp0, a_wp1, a_rs0, a_rs1, a_mkF, a_mkIO, a_owL, a_owD, a_tkT, a_tkF, a_apf, a_apb, a_apn, a_aps, e_addI, e_subI, e_mulI, e_divI, e_modI, e_negI, e_lt, e_le, e_gt, e_ge, e_is, e_isnot, a_lift, e_lenL, e_lenT, e_lenS, e_intI, e_intB, e_absI, e_truB, e_truI, e_truN, e_truL, e_truT, e_ixL, e_ixT, e_tupL, e_tupT, e_lstL, e_lstT, e_sum, cEq_int, cNe_int, fin_nx, fin_val, fin_new, fin_slot, fin_ex, finIO_nx, finIO_val, finIO_new, finIO_slot, finIO_ex, entry_eq, entryIO_eq, atI_0, atI_1, atI_2, atI_3, Option.map_some, List.set_cons_zero, List.set_cons_succ, List.getElem?_cons_zero, List.getElem?_cons_succ, List.getElem?_nil, List.getD_cons_zero, List.getD_cons_succ, List.map_cons, List.map_nil, List.length_cons, List.length_nil, List.length_map, List.replicate, List.cons_append, List.nil_append, Nat.reduceAdd, Nat.reduceSub, Nat.reduceLeDiff, Nat.reduceLT, Nat.zero_le, Int.reduceLT, Int.reduceLE, Int.reduceEq, Int.reduceNeg, if_true, if_false, Bool.false_eq_true, Bool.true_eq_false, reduceIte, Bool.or_true, Bool.true_or, Bool.false_or, Bool.or_false, Bool.and_true, Bool.and_false, Bool.true_and, Bool.false_and, Bool.not_true, Bool.not_false, decide_true, decide_false, decide_eq_true_eq, and_self, not_true_eq_false, not_false_eq_true, ite_self, a_try_ok, a_raise0, a_raise, a_h0, a_h1, a_en0, a_en1, a_se_nx, a_se_rt, a_lv0, a_lv1, a_un0, a_un1, a_cx0, a_cx1, a_cx2, a_cx3, a_xf, a_pad, a_walk, a_rev, a_par, a_chain, a_chainB, w_enum, w_zipL, w_zipT, e_max, e_min, e_and, e_sumA, e_sumAT, List.reverse_cons, List.reverse_nil, List.zip_cons_cons, List.zip_nil_left, List.zip_nil_right, a_mIndex, a_fld, a_callT, a_methD, a_make, a_val, a_newD, w_enumL, w_enumT, a_apT, a_apG, a_apL, e_ixG, e_tupF, a_no0, a_no1, e_sliceL, e_sliceT, a_ins, a_cat, e_revL, List.nil_append, List.reverse_nil, subE_BadField_BadField, in_xs_0_BadField, fc_modulus_Field, fc_size_Field, fc_prime_Field, fc_degree_Field, fc_digit_rows_Field, fc_sum_rows_Field, fc_product_rows_Field, fc_negatives_Field, fc_inverses_Field, fc_step_row_Field, subXs_BadField_RankError, subXs_BadField_ValueError, subXs_BadField_BadThing, tf_m_raised_Field_Field, tf_eq_Field]; rfl, rfl, by
      have := index_nums (hi a (List.mem_range.mp ha))
      rw [show ((0 : Nat) : Int) = 0 from rfl] at this
      simp only [L_Field___init___2, bindR_ok, bindR_ex, a_bind, a_of_some, a_var, a_c, a_bin, a_un, a_test, a_tru, a_cmp, a_and, a_or, a_not, a_if, a_andV, a_orV, a_notV, a_bl, a_nil, a_cons, a_tup, a_lst, a_call, a_callF, a_callIO, a_seq, a_next, a_ret, a_retN, a_drop, a_break, a_cont, a_ifS, a_asg, a_asgG, a_app, a_setI, a_iter, a_rng, a_for, a_slice, a_part0, a_part1, a_lc, a_yes, l_val, l_new, l_slot, f_val, f_new, f_slot, t_val, t_new, t_slot, s_val, s_new, s_slot, a_look2, a_look1, a_fa0, a_fa1, a_la0, a_la1, a_fn1, a_fn2, a_gN, a_gs0, a_gs1, a_gT, a_turn, a_fg0, a_fg1, a_wp0, a_wp1, a_rs0, a_rs1, a_mkF, a_mkIO, a_owL, a_owD, a_tkT, a_tkF, a_apf, a_apb, a_apn, a_aps, e_addI, e_subI, e_mulI, e_divI, e_modI, e_negI, e_lt, e_le, e_gt, e_ge, e_is, e_isnot, a_lift, e_lenL, e_lenT, e_lenS, e_intI, e_intB, e_absI, e_truB, e_truI, e_truN, e_truL, e_truT, e_ixL, e_ixT, e_tupL, e_tupT, e_lstL, e_lstT, e_sum, cEq_int, cNe_int, fin_nx, fin_val, fin_new, fin_slot, fin_ex, finIO_nx, finIO_val, finIO_new, finIO_slot, finIO_ex, entry_eq, entryIO_eq, atI_0, atI_1, atI_2, atI_3, Option.map_some, List.set_cons_zero, List.set_cons_succ, List.getElem?_cons_zero, List.getElem?_cons_succ, List.getElem?_nil, List.getD_cons_zero, List.getD_cons_succ, List.map_cons, List.map_nil, List.length_cons, List.length_nil, List.length_map, List.replicate, List.cons_append, List.nil_append, Nat.reduceAdd, Nat.reduceSub, Nat.reduceLeDiff, Nat.reduceLT, Nat.zero_le, Int.reduceLT, Int.reduceLE, Int.reduceEq, Int.reduceNeg, if_true, if_false, Bool.false_eq_true, Bool.true_eq_false, reduceIte, Bool.or_true, Bool.true_or, Bool.false_or, Bool.or_false, Bool.and_true, Bool.and_false, Bool.true_and, Bool.false_and, Bool.not_true, Bool.not_false, decide_true, decide_false, decide_eq_true_eq, and_self, not_true_eq_false, not_false_eq_true, ite_self, a_try_ok, a_raise0, a_raise, a_h0, a_h1, a_en0, a_en1, a_se_nx, a_se_rt, a_lv0, a_lv1, a_un0, a_un1, a_cx0, a_cx1, a_cx2, a_cx3, a_xf, a_pad, a_walk, a_rev, a_par, a_chain, a_chainB, w_enum, w_zipL, w_zipT, e_max, e_min, e_and, e_sumA, e_sumAT, List.reverse_cons, List.reverse_nil, List.zip_cons_cons, List.zip_nil_left, List.zip_nil_right, a_mIndex, a_fld, a_callT, a_methD, a_make, a_val, a_newD, w_enumL, w_enumT, a_apT, a_apG, a_apL, e_ixG, e_tupF, a_no0, a_no1, e_sliceL, e_sliceT, a_ins, a_cat, e_revL, List.nil_append, List.reverse_nil, subE_BadField_BadField, in_xs_0_BadField, fc_modulus_Field, fc_size_Field, fc_prime_Field, fc_degree_Field, fc_digit_rows_Field, fc_sum_rows_Field, fc_product_rows_Field, fc_negatives_Field, fc_inverses_Field, fc_step_row_Field, subXs_BadField_RankError, subXs_BadField_ValueError, subXs_BadField_BadThing, tf_m_raised_Field_Field, tf_eq_Field, this]; rfl, f_val, rfl⟩
theorem C3g (hn : q ^ m ≤ 100000) (hi : ∀ a, a < q ^ m → 0 < a → 1 ∈ prodRow q md m a) : mLcLoop (gN 5) [5] mYes L_Field___init___3 ((List.range (q ^ m - 1)).map fun i => .tupf (nums (prodRow q md m (i + 1)))) [] [.ow d, .sh (.int q), .sh z, .sh .non, .no, .no] = .ok (nums ((List.range (q ^ m - 1)).map fun i => invE q md m (i + 1))) [.ow d, .sh (.int q), .sh z, .sh .non, .no, .no] := by
  rw [nums_map]
  exact lc_each (fun i : Nat => .tupf (nums (prodRow q md m (i + 1)))) (fun i : Nat => .int (invE q md m (i + 1) : Nat)) (List.range (q ^ m - 1)) (by rw [List.length_range]; unfold lim; omega) fun a ha => ⟨_, _, _, _, _, by
      simp only [bindR_ok, bindR_ex, a_bind, a_of_some, a_var, a_c, a_bin, a_un, a_test, a_tru, a_cmp, a_and, a_or, a_not, a_if, a_andV, a_orV, a_notV, a_bl, a_nil, a_cons, a_tup, a_lst, a_call, a_callF, a_callIO, a_seq, a_next, a_ret, a_retN, a_drop, a_break, a_cont, a_ifS, a_asg, a_asgG, a_app, a_setI, a_iter, a_rng, a_for, a_slice, a_part0, a_part1, a_lc, a_yes, l_val, l_new, l_slot, f_val, f_new, f_slot, t_val, t_new, t_slot, s_val, s_new, s_slot, a_look2, a_look1, a_fa0, a_fa1, a_la0, a_la1, a_fn1, a_fn2, a_gN, a_gs0, a_gs1, a_gT, a_turn, a_fg0, a_fg1, a_wp0, a_wp1, a_rs0, a_rs1, a_mkF, a_mkIO, a_owL, a_owD, a_tkT, a_tkF, a_apf, a_apb, a_apn, a_aps, e_addI, e_subI, e_mulI, e_divI, e_modI, e_negI, e_lt, e_le, e_gt, e_ge, e_is, e_isnot, a_lift, e_lenL, e_lenT, e_lenS, e_intI, e_intB, e_absI, e_truB, e_truI, e_truN, e_truL, e_truT, e_ixL, e_ixT, e_tupL, e_tupT, e_lstL, e_lstT, e_sum, cEq_int, cNe_int, fin_nx, fin_val, fin_new, fin_slot, fin_ex, finIO_nx, finIO_val, finIO_new, finIO_slot, finIO_ex, entry_eq, entryIO_eq, atI_0, atI_1, atI_2, atI_3, Option.map_some, List.set_cons_zero, List.set_cons_succ, List.getElem?_cons_zero, List.getElem?_cons_succ, List.getElem?_nil, List.getD_cons_zero, List.getD_cons_succ, List.map_cons, List.map_nil, List.length_cons, List.length_nil, List.length_map, List.replicate, List.cons_append, List.nil_append, Nat.reduceAdd, Nat.reduceSub, Nat.reduceLeDiff, Nat.reduceLT, Nat.zero_le, Int.reduceLT, Int.reduceLE, Int.reduceEq, Int.reduceNeg, if_true, if_false, Bool.false_eq_true, Bool.true_eq_false, reduceIte, Bool.or_true, Bool.true_or, Bool.false_or, Bool.or_false, Bool.and_true, Bool.and_false, Bool.true_and, Bool.false_and, Bool.not_true, Bool.not_false, decide_true, decide_false, decide_eq_true_eq, and_self, not_true_eq_false, not_false_eq_true, ite_self, a_try_ok, a_raise0, a_raise, a_h0, a_h1, a_en0, a_en1, a_se_nx, a_se_rt, a_lv0, a_lv1, a_un0, a_un1, a_cx0, a_cx1, a_cx2, a_cx3, a_xf, a_pad, a_walk, a_rev, a_par, a_chain, a_chainB, w_enum, w_zipL, w_zipT, e_max, e_min, e_and, e_sumA, e_sumAT, List.reverse_cons, List.reverse_nil, List.zip_cons_cons, List.zip_nil_left, List.zip_nil_right, a_mIndex, a_fld, a_callT, a_methD, a_make, a_val, a_newD, w_enumL, w_enumT, a_apT, a_apG, a_apL, e_ixG, e_tupF, a_no0, a_no1, e_sliceL, e_sliceT, a_ins, a_cat, e_revL, List.nil_append, List.reverse_nil, subE_BadField_BadField, in_xs_0_BadField, fc_modulus_Field, fc_size_Field, fc_prime_Field, fc_degree_Field, fc_digit_rows_Field, fc_sum_rows_Field, fc_product_rows_Field, fc_negatives_Field, fc_inverses_Field, fc_step_row_Field, subXs_BadField_RankError, subXs_BadField_ValueError, subXs_BadField_BadThing, tf_m_raised_Field_Field, tf_eq_Field]; rfl, rfl, by
      have := index_nums (hi (a + 1) (by have := List.mem_range.mp ha; omega) (Nat.succ_pos _))
      rw [show ((1 : Nat) : Int) = 1 from rfl] at this
      simp only [L_Field___init___3, bindR_ok, bindR_ex, a_bind, a_of_some, a_var, a_c, a_bin, a_un, a_test, a_tru, a_cmp, a_and, a_or, a_not, a_if, a_andV, a_orV, a_notV, a_bl, a_nil, a_cons, a_tup, a_lst, a_call, a_callF, a_callIO, a_seq, a_next, a_ret, a_retN, a_drop, a_break, a_cont, a_ifS, a_asg, a_asgG, a_app, a_setI, a_iter, a_rng, a_for, a_slice, a_part0, a_part1, a_lc, a_yes, l_val, l_new, l_slot, f_val, f_new, f_slot, t_val, t_new, t_slot, s_val, s_new, s_slot, a_look2, a_look1, a_fa0, a_fa1, a_la0, a_la1, a_fn1, a_fn2, a_gN, a_gs0, a_gs1, a_gT, a_turn, a_fg0, a_fg1, a_wp0, a_wp1, a_rs0, a_rs1, a_mkF, a_mkIO, a_owL, a_owD, a_tkT, a_tkF, a_apf, a_apb, a_apn, a_aps, e_addI, e_subI, e_mulI, e_divI, e_modI, e_negI, e_lt, e_le, e_gt, e_ge, e_is, e_isnot, a_lift, e_lenL, e_lenT, e_lenS, e_intI, e_intB, e_absI, e_truB, e_truI, e_truN, e_truL, e_truT, e_ixL, e_ixT, e_tupL, e_tupT, e_lstL, e_lstT, e_sum, cEq_int, cNe_int, fin_nx, fin_val, fin_new, fin_slot, fin_ex, finIO_nx, finIO_val, finIO_new, finIO_slot, finIO_ex, entry_eq, entryIO_eq, atI_0, atI_1, atI_2, atI_3, Option.map_some, List.set_cons_zero, List.set_cons_succ, List.getElem?_cons_zero, List.getElem?_cons_succ, List.getElem?_nil, List.getD_cons_zero, List.getD_cons_succ, List.map_cons, List.map_nil, List.length_cons, List.length_nil, List.length_map, List.replicate, List.cons_append, List.nil_append, Nat.reduceAdd, Nat.reduceSub, Nat.reduceLeDiff, Nat.reduceLT, Nat.zero_le, Int.reduceLT, Int.reduceLE, Int.reduceEq, Int.reduceNeg, if_true, if_false, Bool.false_eq_true, Bool.true_eq_false, reduceIte, Bool.or_true, Bool.true_or, Bool.false_or, Bool.or_false, Bool.and_true, Bool.and_false, Bool.true_and, Bool.false_and, Bool.not_true, Bool.not_false, decide_true, decide_false, decide_eq_true_eq, and_self, not_true_eq_false, not_false_eq_true, ite_self, a_try_ok, a_raise0, a_raise, a_h0, a_h1, a_en0, a_en1, a_se_nx, a_se_rt, a_lv0, a_lv1, a_un0, a_un1, a_cx0, a_cx1, a_cx2, a_cx3, a_xf, a_pad, a_walk, a_rev, a_par, a_chain, a_chainB, w_enum, w_zipL, w_zipT, e_max, e_min, e_and, e_sumA, e_sumAT, List.reverse_cons, List.reverse_nil, List.zip_cons_cons, List.zip_nil_left, List.zip_nil_right, a_mIndex, a_fld, a_callT, a_methD, a_make, a_val, a_newD, w_enumL, w_enumT, a_apT, a_apG, a_apL, e_ixG, e_tupF, a_no0, a_no1, e_sliceL, e_sliceT, a_ins, a_cat, e_revL, List.nil_append, List.reverse_nil, subE_BadField_BadField, in_xs_0_BadField, fc_modulus_Field, fc_size_Field, fc_prime_Field, fc_degree_Field, fc_digit_rows_Field, fc_sum_rows_Field, fc_product_rows_Field, fc_negatives_Field, fc_inverses_Field, fc_step_row_Field, subXs_BadField_RankError, subXs_BadField_ValueError, subXs_BadField_BadThing, tf_m_raised_Field_Field, tf_eq_Field, this]; rfl, f_val, rfl⟩
theorem C4g (h : q = 2 ∨ q = 3) (hn : q ^ m ≤ 100000) (h1 : dFld fa_product_rows "product_rows" d = some (.val (.tup (prodsD q md m)))) (h2 : dFld fa_prime "prime" d = some (.val (.int q))) (M : methF "raised" t_m_raised_Field d = some F_Field_raised) :
    mLcLoop (gN 4) [4] mYes L_Field___init___4 (rngD 0 (q ^ m)) [] [.ow d, .sh (.int q), .sh z, .sh .non, .no, .no] = .ok (nums (stepRow q md m)) [.ow d, .sh (.int q), .sh z, .sh .non, .no, .no] := by
  unfold stepRow
  rw [rngD_map, nums_map]
  exact lc_each (fun i : Nat => .int (0 + (i : Int))) (fun t : Nat => .int (stepE q md m t : Nat)) (List.range (q ^ m)) (by rw [List.length_range]; unfold lim; omega) fun a ha => ⟨_, _, _, _, _, by
      simp only [bindR_ok, bindR_ex, a_bind, a_of_some, a_var, a_c, a_bin, a_un, a_test, a_tru, a_cmp, a_and, a_or, a_not, a_if, a_andV, a_orV, a_notV, a_bl, a_nil, a_cons, a_tup, a_lst, a_call, a_callF, a_callIO, a_seq, a_next, a_ret, a_retN, a_drop, a_break, a_cont, a_ifS, a_asg, a_asgG, a_app, a_setI, a_iter, a_rng, a_for, a_slice, a_part0, a_part1, a_lc, a_yes, l_val, l_new, l_slot, f_val, f_new, f_slot, t_val, t_new, t_slot, s_val, s_new, s_slot, a_look2, a_look1, a_fa0, a_fa1, a_la0, a_la1, a_fn1, a_fn2, a_gN, a_gs0, a_gs1, a_gT, a_turn, a_fg0, a_fg1, a_wp0, a_wp1, a_rs0, a_rs1, a_mkF, a_mkIO, a_owL, a_owD, a_tkT, a_tkF, a_apf, a_apb, a_apn, a_aps, e_addI, e_subI, e_mulI, e_divI, e_modI, e_negI, e_lt, e_le, e_gt, e_ge, e_is, e_isnot, a_lift, e_lenL, e_lenT, e_lenS, e_intI, e_intB, e_absI, e_truB, e_truI, e_truN, e_truL, e_truT, e_ixL, e_ixT, e_tupL, e_tupT, e_lstL, e_lstT, e_sum, cEq_int, cNe_int, fin_nx, fin_val, fin_new, fin_slot, fin_ex, finIO_nx, finIO_val, finIO_new, finIO_slot, finIO_ex, entry_eq, entryIO_eq, atI_0, atI_1, atI_2, atI_3, Option.map_some, List.set_cons_zero, List.set_cons_succ, List.getElem?_cons_zero, List.getElem?_cons_succ, List.getElem?_nil, List.getD_cons_zero, List.getD_cons_succ, List.map_cons, List.map_nil, List.length_cons, List.length_nil, List.length_map, List.replicate, List.cons_append, List.nil_append, Nat.reduceAdd, Nat.reduceSub, Nat.reduceLeDiff, Nat.reduceLT, Nat.zero_le, Int.reduceLT, Int.reduceLE, Int.reduceEq, Int.reduceNeg, if_true, if_false, Bool.false_eq_true, Bool.true_eq_false, reduceIte, Bool.or_true, Bool.true_or, Bool.false_or, Bool.or_false, Bool.and_true, Bool.and_false, Bool.true_and, Bool.false_and, Bool.not_true, Bool.not_false, decide_true, decide_false, decide_eq_true_eq, and_self, not_true_eq_false, not_false_eq_true, ite_self, a_try_ok, a_raise0, a_raise, a_h0, a_h1, a_en0, a_en1, a_se_nx, a_se_rt, a_lv0, a_lv1, a_un0, a_un1, a_cx0, a_cx1, a_cx2, a_cx3, a_xf, a_pad, a_walk, a_rev, a_par, a_chain, a_chainB, w_enum, w_zipL, w_zipT, e_max, e_min, e_and, e_sumA, e_sumAT, List.reverse_cons, List.reverse_nil, List.zip_cons_cons, List.zip_nil_left, List.zip_nil_right, a_mIndex, a_fld, a_callT, a_methD, a_make, a_val, a_newD, w_enumL, w_enumT, a_apT, a_apG, a_apL, e_ixG, e_tupF, a_no0, a_no1, e_sliceL, e_sliceT, a_ins, a_cat, e_revL, List.nil_append, List.reverse_nil, subE_BadField_BadField, in_xs_0_BadField, fc_modulus_Field, fc_size_Field, fc_prime_Field, fc_degree_Field, fc_digit_rows_Field, fc_sum_rows_Field, fc_product_rows_Field, fc_negatives_Field, fc_inverses_Field, fc_step_row_Field, subXs_BadField_RankError, subXs_BadField_ValueError, subXs_BadField_BadThing, tf_m_raised_Field_Field, tf_eq_Field]; rfl, rfl, by
      have R := raised_eq (md := md) h (List.mem_range.mp ha) h1 h2
      rw [Int.zero_add]
      exact C4t F_Field_raised rfl M R, f_val, rfl⟩
end
theorem fld_init {q m : Nat} {md : List Nat} (h : q = 2 ∨ q = 3) (hl : md.length = m + 1) (h0 : 0 < m) (h15 : m ≤ 15) (h1 : ∀ d ∈ md, d < q) (hn : q ^ m ≤ 100000) (hi : invOk q md m) {z : D} (hz : SeqD z (nums md)) (hf : F_field_fault [.int q, z] = .ok false .non .non) :
    F_Field___init__ [.ins cl_Field [] [], .int q, z] = .ok false .non (fieldD q md m) := by
  have q0 : 0 < q ^ m := Nat.pow_pos (by omega)
  have tz : dTuple z = some (.val (.tup (nums md))) := by rcases hz with rfl | rfl <;> rfl
  have e1 : ((nums md).length : Int) - 1 = (m : Int) := by rw [nums_len, hl]; omega
  have ok1 : okR ((q ^ m : Nat) : Int) = true := okN (by omega)
  have pw := power_eq h (m := m) (by omega) hn
  have su := sums_of_eq h (m := m) (by omega) hn
  have pr := pr_4 h hl h0 h15 h1 hn
  have cut1 : cutD (prodsD q md m) (some 1) none = (List.range (q ^ m - 1)).map fun i => .tupf (nums (prodRow q md m (i + 1))) := by
    have := cut_drop (xs := prodsD q md m) (k := 1) (by unfold prodsD; rw [List.length_map, List.length_range]; exact q0)
    rw [show ((1 : Nat) : Int) = 1 from rfl] at this
    rw [this]
    unfold prodsD
    obtain ⟨n, hn1⟩ : ∃ n, q ^ m = n + 1 := ⟨q ^ m - 1, by omega⟩
    rw [hn1, List.range_succ_eq_map, List.map_cons, List.drop_succ_cons, List.drop_zero, List.map_map]
    rfl
  have ad : dAdd (.tup [.int 0]) (.tup (nums ((List.range (q ^ m - 1)).map fun i => invE q md m (i + 1)))) = some (.val (.tup (nums (invRow q md m)))) := e_addT (by
    rw [nums_len, List.length_map, List.length_range]
    exact Nat.le_trans (show 1 + (q ^ m - 1) ≤ 100000 by omega) (by decide))
  exact init_frame F_field_fault F_power_of F_sums_of F_products_of L_Field___init___1 L_Field___init___2 L_Field___init___3 L_Field___init___4 hf tz e1 pw ok1 (Int.toNat_natCast _) su pr (C1g h h15 hn get_degree_4) (C2g hn hi.1) cut1 (C3g hn hi.2) ad (C4g h hn get_product_rows_9 get_prime_9 rfl)
/-! ### checks of digits -/
/-- no object of a class of the package -/
def plainI : D → Bool
  | .non | .bl _ | .int _ | .str _ | .tup _ | .lst _ | .dic _ _ => true
  | _ => false
def inR (lo hi : Int) : D → Bool
  | .int i => decide (lo ≤ i) && decide (i ≤ hi)
  | _ => false
theorem isi_int {d : D} (h : plainI d = true) : dIsi subIs icIs d (.ty "int") = some (.val (.bl (match d with | .int _ => true | .bl _ => true | _ => false))) := by
  cases d <;> first | (cases h; done) | rfl
theorem isi_bool {d : D} (h : plainI d = true) : dIsi subIs icIs d (.ty "bool") = some (.val (.bl (match d with | .bl _ => true | _ => false))) := by
  cases d <;> first | (cases h; done) | rfl
theorem isi_seq {d : D} (h : plainI d = true) : dIsi subIs icIs d (.tup [.ty "list", .ty "tuple"]) = some (.val (.bl (match d with | .lst _ => true | .tup _ => true | _ => false))) := by
  cases d <;> first | (cases h; done) | rfl
theorem whole_eq {d : D} {lo hi : Int} (h : plainI d = true) : F_is_whole [d, .int lo, .int hi] = .ok false (.bl (inR lo hi d)) .non := by
  have h1 := isi_int h
  have h2 := isi_bool h
  cases d with
  | int i =>
    dsimp only at h1 h2
    by_cases c : i < lo
    · have e : inR lo hi (.int i) = false := by show (decide (lo ≤ i) && decide (i ≤ hi)) = false; rw [decide_eq_false (by omega)]; rfl
      simp only [F_is_whole, B_is_whole, bindR_ok, bindR_ex, a_bind, a_of_some, a_var, a_c, a_bin, a_un, a_test, a_tru, a_cmp, a_and, a_or, a_not, a_if, a_andV, a_orV, a_notV, a_bl, a_nil, a_cons, a_tup, a_lst, a_call, a_callF, a_callIO, a_seq, a_next, a_ret, a_retN, a_drop, a_break, a_cont, a_ifS, a_asg, a_asgG, a_app, a_setI, a_iter, a_rng, a_for, a_slice, a_part0, a_part1, a_lc, a_yes, l_val, l_new, l_slot, f_val, f_new, f_slot, t_val, t_new, t_slot, s_val, s_new, s_slot, a_look2, a_look1, a_fa0, a_fa1, a_la0, a_la1, a_fn1, a_fn2, a_gN, a_gs0, a_gs1, a_gT, a_turn, a_fg0, a_fg1, a_wp0, a_wp1, a_rs0, a_rs1, a_mkF, a_mkIO, a_owL, a_owD, a_tkT, a_tkF, a_apf, a_apb, a_apn, a_aps, e_addI, e_subI, e_mulI, e_divI, e_modI, e_negI, e_lt, e_le, e_gt, e_ge, e_is, e_isnot, a_lift, e_lenL, e_lenT, e_lenS, e_intI, e_intB, e_absI, e_truB, e_truI, e_truN, e_truL, e_truT, e_ixL, e_ixT, e_tupL, e_tupT, e_lstL, e_lstT, e_sum, cEq_int, cNe_int, fin_nx, fin_val, fin_new, fin_slot, fin_ex, finIO_nx, finIO_val, finIO_new, finIO_slot, finIO_ex, entry_eq, entryIO_eq, atI_0, atI_1, atI_2, atI_3, Option.map_some, List.set_cons_zero, List.set_cons_succ, List.getElem?_cons_zero, List.getElem?_cons_succ, List.getElem?_nil, List.getD_cons_zero, List.getD_cons_succ, List.map_cons, List.map_nil, List.length_cons, List.length_nil, List.length_map, List.replicate, List.cons_append, List.nil_append, Nat.reduceAdd, Nat.reduceSub, Nat.reduceLeDiff, Nat.reduceLT, Nat.zero_le, Int.reduceLT, Int.reduceLE, Int.reduceEq, Int.reduceNeg, if_true, if_false, Bool.false_eq_true, Bool.true_eq_false, reduceIte, Bool.or_true, Bool.true_or, Bool.false_or, Bool.or_false, Bool.and_true, Bool.and_false, Bool.true_and, Bool.false_and, Bool.not_true, Bool.not_false, decide_true, decide_false, decide_eq_true_eq, and_self, not_true_eq_false, not_false_eq_true, ite_self, a_try_ok, a_raise0, a_raise, a_h0, a_h1, a_en0, a_en1, a_se_nx, a_se_rt, a_lv0, a_lv1, a_un0, a_un1, a_cx0, a_cx1, a_cx2, a_cx3, a_xf, a_pad, a_walk, a_rev, a_par, a_chain, a_chainB, w_enum, w_zipL, w_zipT, e_max, e_min, e_and, e_sumA, e_sumAT, List.reverse_cons, List.reverse_nil, List.zip_cons_cons, List.zip_nil_left, List.zip_nil_right, a_mIndex, a_fld, a_callT, a_methD, a_make, a_val, a_newD, w_enumL, w_enumT, a_apT, a_apG, a_apL, e_ixG, e_tupF, a_no0, a_no1, e_sliceL, e_sliceT, a_ins, a_cat, e_revL, List.nil_append, List.reverse_nil, subE_BadField_BadField, in_xs_0_BadField, fc_modulus_Field, fc_size_Field, fc_prime_Field, fc_degree_Field, fc_digit_rows_Field, fc_sum_rows_Field, fc_product_rows_Field, fc_negatives_Field, fc_inverses_Field, fc_step_row_Field, subXs_BadField_RankError, subXs_BadField_ValueError, subXs_BadField_BadThing, tf_m_raised_Field_Field, tf_eq_Field, h1, h2, D.isN, c, e]
    · have e : inR lo hi (.int i) = decide (i ≤ hi) := by show (decide (lo ≤ i) && decide (i ≤ hi)) = _; rw [decide_eq_true (show lo ≤ i by omega)]; rfl
      simp only [F_is_whole, B_is_whole, bindR_ok, bindR_ex, a_bind, a_of_some, a_var, a_c, a_bin, a_un, a_test, a_tru, a_cmp, a_and, a_or, a_not, a_if, a_andV, a_orV, a_notV, a_bl, a_nil, a_cons, a_tup, a_lst, a_call, a_callF, a_callIO, a_seq, a_next, a_ret, a_retN, a_drop, a_break, a_cont, a_ifS, a_asg, a_asgG, a_app, a_setI, a_iter, a_rng, a_for, a_slice, a_part0, a_part1, a_lc, a_yes, l_val, l_new, l_slot, f_val, f_new, f_slot, t_val, t_new, t_slot, s_val, s_new, s_slot, a_look2, a_look1, a_fa0, a_fa1, a_la0, a_la1, a_fn1, a_fn2, a_gN, a_gs0, a_gs1, a_gT, a_turn, a_fg0, a_fg1, a_wp0, a_wp1, a_rs0, a_rs1, a_mkF, a_mkIO, a_owL, a_owD, a_tkT, a_tkF, a_apf, a_apb, a_apn, a_aps, e_addI, e_subI, e_mulI, e_divI, e_modI, e_negI, e_lt, e_le, e_gt, e_ge, e_is, e_isnot, a_lift, e_lenL, e_lenT, e_lenS, e_intI, e_intB, e_absI, e_truB, e_truI, e_truN, e_truL, e_truT, e_ixL, e_ixT, e_tupL, e_tupT, e_lstL, e_lstT, e_sum, cEq_int, cNe_int, fin_nx, fin_val, fin_new, fin_slot, fin_ex, finIO_nx, finIO_val, finIO_new, finIO_slot, finIO_ex, entry_eq, entryIO_eq, atI_0, atI_1, atI_2, atI_3, Option.map_some, List.set_cons_zero, List.set_cons_succ, List.getElem?_cons_zero, List.getElem?_cons_succ, List.getElem?_nil, List.getD_cons_zero, List.getD_cons_succ, List.map_cons, List.map_nil, List.length_cons, List.length_nil, List.length_map, List.replicate, List.cons_append, List.nil_append, Nat.reduceAdd, Nat.reduceSub, Nat.reduceLeDiff, Nat.reduceLT, Nat.zero_le, Int.reduceLT, Int.reduceLE, Int.reduceEq, Int.reduceNeg, if_true, if_false, Bool.false_eq_true, Bool.true_eq_false, reduceIte, Bool.or_true, Bool.true_or, Bool.false_or, Bool.or_false, Bool.and_true, Bool.and_false, Bool.true_and, Bool.false_and, Bool.not_true, Bool.not_false, decide_true, decide_false, decide_eq_true_eq, and_self, not_true_eq_false, not_false_eq_true, ite_self, a_try_ok, a_raise0, a_raise, a_h0, a_h1, a_en0, a_en1, a_se_nx, a_se_rt, a_lv0, a_lv1, a_un0, a_un1, a_cx0, a_cx1, a_cx2, a_cx3, a_xf, a_pad, a_walk, a_rev, a_par, a_chain, a_chainB, w_enum, w_zipL, w_zipT, e_max, e_min, e_and, e_sumA, e_sumAT, List.reverse_cons, List.reverse_nil, List.zip_cons_cons, List.zip_nil_left, List.zip_nil_right, a_mIndex, a_fld, a_callT, a_methD, a_make, a_val, a_newD, w_enumL, w_enumT, a_apT, a_apG, a_apL, e_ixG, e_tupF, a_no0, a_no1, e_sliceL, e_sliceT, a_ins, a_cat, e_revL, List.nil_append, List.reverse_nil, subE_BadField_BadField, in_xs_0_BadField, fc_modulus_Field, fc_size_Field, fc_prime_Field, fc_degree_Field, fc_digit_rows_Field, fc_sum_rows_Field, fc_product_rows_Field, fc_negatives_Field, fc_inverses_Field, fc_step_row_Field, subXs_BadField_RankError, subXs_BadField_ValueError, subXs_BadField_BadThing, tf_m_raised_Field_Field, tf_eq_Field, h1, h2, D.isN, c, e]
      try rfl
  | bl b => dsimp only at h1 h2; simp only [F_is_whole, B_is_whole, bindR_ok, bindR_ex, a_bind, a_of_some, a_var, a_c, a_bin, a_un, a_test, a_tru, a_cmp, a_and, a_or, a_not, a_if, a_andV, a_orV, a_notV, a_bl, a_nil, a_cons, a_tup, a_lst, a_call, a_callF, a_callIO, a_seq, a_next, a_ret, a_retN, a_drop, a_break, a_cont, a_ifS, a_asg, a_asgG, a_app, a_setI, a_iter, a_rng, a_for, a_slice, a_part0, a_part1, a_lc, a_yes, l_val, l_new, l_slot, f_val, f_new, f_slot, t_val, t_new, t_slot, s_val, s_new, s_slot, a_look2, a_look1, a_fa0, a_fa1, a_la0, a_la1, a_fn1, a_fn2, a_gN, a_gs0, a_gs1, a_gT, a_turn, a_fg0, a_fg1, a_wp0, a_wp1, a_rs0, a_rs1, a_mkF, a_mkIO, a_owL, a_owD, a_tkT, a_tkF, a_apf, a_apb, a_apn, a_aps, e_addI, e_subI, e_mulI, e_divI, e_modI, e_negI, e_lt, e_le, e_gt, e_ge, e_is, e_isnot, a_lift, e_lenL, e_lenT, e_lenS, e_intI, e_intB, e_absI, e_truB, e_truI, e_truN, e_truL, e_truT, e_ixL, e_ixT, e_tupL, e_tupT, e_lstL, e_lstT, e_sum, cEq_int, cNe_int, fin_nx, fin_val, fin_new, fin_slot, fin_ex, finIO_nx, finIO_val, finIO_new, finIO_slot, finIO_ex, entry_eq, entryIO_eq, atI_0, atI_1, atI_2, atI_3, Option.map_some, List.set_cons_zero, List.set_cons_succ, List.getElem?_cons_zero, List.getElem?_cons_succ, List.getElem?_nil, List.getD_cons_zero, List.getD_cons_succ, List.map_cons, List.map_nil, List.length_cons, List.length_nil, List.length_map, List.replicate, List.cons_append, List.nil_append, Nat.reduceAdd, Nat.reduceSub, Nat.reduceLeDiff, Nat.reduceLT, Nat.zero_le, Int.reduceLT, Int.reduceLE, Int.reduceEq, Int.reduceNeg, if_true, if_false, Bool.false_eq_true, Bool.true_eq_false, reduceIte, Bool.or_true, Bool.true_or, Bool.false_or, Bool.or_false, Bool.and_true, Bool.and_false, Bool.true_and, Bool.false_and, Bool.not_true, Bool.not_false, decide_true, decide_false, decide_eq_true_eq, and_self, not_true_eq_false, not_false_eq_true, ite_self, a_try_ok, a_raise0, a_raise, a_h0, a_h1, a_en0, a_en1, a_se_nx, a_se_rt, a_lv0, a_lv1, a_un0, a_un1, a_cx0, a_cx1, a_cx2, a_cx3, a_xf, a_pad, a_walk, a_rev, a_par, a_chain, a_chainB, w_enum, w_zipL, w_zipT, e_max, e_min, e_and, e_sumA, e_sumAT, List.reverse_cons, List.reverse_nil, List.zip_cons_cons, List.zip_nil_left, List.zip_nil_right, a_mIndex, a_fld, a_callT, a_methD, a_make, a_val, a_newD, w_enumL, w_enumT, a_apT, a_apG, a_apL, e_ixG, e_tupF, a_no0, a_no1, e_sliceL, e_sliceT, a_ins, a_cat, e_revL, List.nil_append, List.reverse_nil, subE_BadField_BadField, in_xs_0_BadField, fc_modulus_Field, fc_size_Field, fc_prime_Field, fc_degree_Field, fc_digit_rows_Field, fc_sum_rows_Field, fc_product_rows_Field, fc_negatives_Field, fc_inverses_Field, fc_step_row_Field, subXs_BadField_RankError, subXs_BadField_ValueError, subXs_BadField_BadThing, tf_m_raised_Field_Field, tf_eq_Field, h1, h2]; try rfl
  | _ => first
    | (cases h; done)
    | (dsimp only at h1 h2; simp only [F_is_whole, B_is_whole, bindR_ok, bindR_ex, a_bind, a_of_some, a_var, a_c, a_bin, a_un, a_test, a_tru, a_cmp, a_and, a_or, a_not, a_if, a_andV, a_orV, a_notV, a_bl, a_nil, a_cons, a_tup, a_lst, a_call, a_callF, a_callIO, a_seq, a_next, a_ret, a_retN, a_drop, a_break, a_cont, a_ifS, a_asg, a_asgG, a_app, a_setI, a_iter, a_rng, a_for, a_slice, a_part0, a_part1, a_lc, a_yes, l_val, l_new, l_slot, f_val, f_new, f_slot, t_val, t_new, t_slot, s_val, s_new, s_slot, a_look2, a_look1, a_fa0, a_fa1, a_la0, a_la1, a_fn1, a_fn2, a_gN, a_gs0, a_gs1, a_gT, a_turn, a_fg0, a_fg1, a_wp0, a_wp1, a_rs0, a_rs1, a_mkF, a_mkIO, a_owL, a_owD, a_tkT, a_tkF, a_apf, a_apb, a_apn, a_aps, e_addI, e_subI, e_mulI, e_divI, e_modI, e_negI, e_lt, e_le, e_gt, e_ge, e_is, e_isnot, a_lift, e_lenL, e_lenT, e_lenS, e_intI, e_intB, e_absI, e_truB, e_truI, e_truN, e_truL, e_truT, e_ixL, e_ixT, e_tupL, e_tupT, e_lstL, e_lstT, e_sum, cEq_int, cNe_int, fin_nx, fin_val, fin_new, fin_slot, fin_ex, finIO_nx, finIO_val, finIO_new, finIO_slot, finIO_ex, entry_eq, entryIO_eq, atI_0, atI_1, atI_2, atI_3, Option.map_some, List.set_cons_zero, List.set_cons_succ, List.getElem?_cons_zero, List.getElem?_cons_succ, List.getElem?_nil, List.getD_cons_zero, List.getD_cons_succ, List.map_cons, List.map_nil, List.length_cons, List.length_nil, List.length_map, List.replicate, List.cons_append, List.nil_append, Nat.reduceAdd, Nat.reduceSub, Nat.reduceLeDiff, Nat.reduceLT, Nat.zero_le, Int.reduceLT, Int.reduceLE, Int.reduceEq, Int.reduceNeg, if_true, if_false, Bool.false_eq_true, Bool.true_eq_false, reduceIte, Bool.or_true, Bool.true_or, Bool.false_or, Bool.or_false, Bool.and_true, Bool.and_false, Bool.true_and, Bool.false_and, Bool.not_true, Bool.not_false, decide_true, decide_false, decide_eq_true_eq, and_self, not_true_eq_false, not_false_eq_true, ite_self, a_try_ok, a_raise0, a_raise, a_h0, a_h1, a_en0, a_en1, a_se_nx, a_se_rt, a_lv0, a_lv1, a_un0, a_un1, a_cx0, a_cx1, a_cx2, a_cx3, a_xf, a_pad, a_walk, a_rev, a_par, a_chain, a_chainB, w_enum, w_zipL, w_zipT, e_max, e_min, e_and, e_sumA, e_sumAT, List.reverse_cons, List.reverse_nil, List.zip_cons_cons, List.zip_nil_left, List.zip_nil_right, a_mIndex, a_fld, a_callT, a_methD, a_make, a_val, a_newD, w_enumL, w_enumT, a_apT, a_apG, a_apL, e_ixG, e_tupF, a_no0, a_no1, e_sliceL, e_sliceT, a_ins, a_cat, e_revL, List.nil_append, List.reverse_nil, subE_BadField_BadField, in_xs_0_BadField, fc_modulus_Field, fc_size_Field, fc_prime_Field, fc_degree_Field, fc_digit_rows_Field, fc_sum_rows_Field, fc_product_rows_Field, fc_negatives_Field, fc_inverses_Field, fc_step_row_Field, subXs_BadField_RankError, subXs_BadField_ValueError, subXs_BadField_BadThing, tf_m_raised_Field_Field, tf_eq_Field, h1, h2]; try rfl)
theorem seq_eq {d : D} (h : plainI d = true) : F_is_sequence [d] = .ok false (.bl (match d with | .lst _ => true | .tup _ => true | _ => false)) .non := by
  have h1 := isi_seq h
  simp only [F_is_sequence, B_is_sequence, bindR_ok, bindR_ex, a_bind, a_of_some, a_var, a_c, a_bin, a_un, a_test, a_tru, a_cmp, a_and, a_or, a_not, a_if, a_andV, a_orV, a_notV, a_bl, a_nil, a_cons, a_tup, a_lst, a_call, a_callF, a_callIO, a_seq, a_next, a_ret, a_retN, a_drop, a_break, a_cont, a_ifS, a_asg, a_asgG, a_app, a_setI, a_iter, a_rng, a_for, a_slice, a_part0, a_part1, a_lc, a_yes, l_val, l_new, l_slot, f_val, f_new, f_slot, t_val, t_new, t_slot, s_val, s_new, s_slot, a_look2, a_look1, a_fa0, a_fa1, a_la0, a_la1, a_fn1, a_fn2, a_gN, a_gs0, a_gs1, a_gT, a_turn, a_fg0, a_fg1, a_wp0, a_wp1, a_rs0, a_rs1, a_mkF, a_mkIO, a_owL, a_owD, a_tkT, a_tkF, a_apf, a_apb, a_apn, a_aps, e_addI, e_subI, e_mulI, e_divI, e_modI, e_negI, e_lt, e_le, e_gt, e_ge, e_is, e_isnot, a_lift, e_lenL, e_lenT, e_lenS, e_intI, e_intB, e_absI, e_truB, e_truI, e_truN, e_truL, e_truT, e_ixL, e_ixT, e_tupL, e_tupT, e_lstL, e_lstT, e_sum, cEq_int, cNe_int, fin_nx, fin_val, fin_new, fin_slot, fin_ex, finIO_nx, finIO_val, finIO_new, finIO_slot, finIO_ex, entry_eq, entryIO_eq, atI_0, atI_1, atI_2, atI_3, Option.map_some, List.set_cons_zero, List.set_cons_succ, List.getElem?_cons_zero, List.getElem?_cons_succ, List.getElem?_nil, List.getD_cons_zero, List.getD_cons_succ, List.map_cons, List.map_nil, List.length_cons, List.length_nil, List.length_map, List.replicate, List.cons_append, List.nil_append, Nat.reduceAdd, Nat.reduceSub, Nat.reduceLeDiff, Nat.reduceLT, Nat.zero_le, Int.reduceLT, Int.reduceLE, Int.reduceEq, Int.reduceNeg, if_true, if_false, Bool.false_eq_true, Bool.true_eq_false, reduceIte, Bool.or_true, Bool.true_or, Bool.false_or, Bool.or_false, Bool.and_true, Bool.and_false, Bool.true_and, Bool.false_and, Bool.not_true, Bool.not_false, decide_true, decide_false, decide_eq_true_eq, and_self, not_true_eq_false, not_false_eq_true, ite_self, a_try_ok, a_raise0, a_raise, a_h0, a_h1, a_en0, a_en1, a_se_nx, a_se_rt, a_lv0, a_lv1, a_un0, a_un1, a_cx0, a_cx1, a_cx2, a_cx3, a_xf, a_pad, a_walk, a_rev, a_par, a_chain, a_chainB, w_enum, w_zipL, w_zipT, e_max, e_min, e_and, e_sumA, e_sumAT, List.reverse_cons, List.reverse_nil, List.zip_cons_cons, List.zip_nil_left, List.zip_nil_right, a_mIndex, a_fld, a_callT, a_methD, a_make, a_val, a_newD, w_enumL, w_enumT, a_apT, a_apG, a_apL, e_ixG, e_tupF, a_no0, a_no1, e_sliceL, e_sliceT, a_ins, a_cat, e_revL, List.nil_append, List.reverse_nil, subE_BadField_BadField, in_xs_0_BadField, fc_modulus_Field, fc_size_Field, fc_prime_Field, fc_degree_Field, fc_digit_rows_Field, fc_sum_rows_Field, fc_product_rows_Field, fc_negatives_Field, fc_inverses_Field, fc_step_row_Field, subXs_BadField_RankError, subXs_BadField_ValueError, subXs_BadField_BadThing, tf_m_raised_Field_Field, tf_eq_Field, h1]
theorem truIs_bl {α : Type} (p : α → Bool) : ∀ xs : List α, truIs (xs.map fun x => .bl (p x)) = some (xs.map p)
  | [] => rfl
  | x :: xs => by
    show (match some (p x), truIs (xs.map fun x => D.bl (p x)) with | some b, some bs => some (b :: bs) | _, _ => none) = _
    rw [truIs_bl p xs]; rfl
theorem SeqD.seq {d : D} {xs : List D} (z : SeqD d xs) : F_is_sequence [d] = .ok false (.bl true) .non := by
  rcases z with rfl | rfl
  · exact seq_eq rfl
  · exact seq_eq rfl
theorem SeqD.len {d : D} {xs : List D} (z : SeqD d xs) : dLen d = some (.val (.int xs.length)) := by rcases z with rfl | rfl <;> rfl
theorem SeqD.ix {d : D} {xs : List D} (z : SeqD d xs) {i : Int} : dIx d (.int i) = (atI xs i).map .val := by rcases z with rfl | rfl <;> rfl
theorem SeqD.lst {d : D} {xs : List D} (z : SeqD d xs) : dList d = some (.new (.lst xs)) := by rcases z with rfl | rfl <;> rfl
theorem SeqD.tup {d : D} {xs : List D} (z : SeqD d xs) : dTuple d = some (.val (.tup xs)) := by rcases z with rfl | rfl <;> rfl
theorem SeqD.pl {d : D} {xs : List D} (z : SeqD d xs) : plainI d = true := by rcases z with rfl | rfl <;> rfl
theorem row_eq {d : D} {xs : List D} {q w : Int} (z : SeqD d xs) (hl : xs.length ≤ lim) (h : ∀ x ∈ xs, plainI x = true) : F_is_digit_row [.int q, .int w, d] = .ok false (.bl (decide ((xs.length : Int) = w) && xs.all (inR 0 (q - 1)))) .non := by
  have hs := z.seq
  have ln := z.len
  by_cases c : (xs.length : Int) = w
  · have lc : mLcLoop (gN 3) [3] mYes L_is_digit_row_1 xs [] [.sh (.int q), .sh (.int w), .sh d, .no] = .ok (xs.map fun x => .bl (inR 0 (q - 1) x)) [.sh (.int q), .sh (.int w), .sh d, .no] := by
      have := lc_each (g := gN 3) (own := [3]) (elt := L_is_digit_row_1) (E := [.sh (.int q), .sh (.int w), .sh d, .no]) (fun x : D => x) (fun x => .bl (inR 0 (q - 1) x)) xs hl fun a ha => ⟨_, _, _, _, _, by
        simp only [bindR_ok, bindR_ex, a_bind, a_of_some, a_var, a_c, a_bin, a_un, a_test, a_tru, a_cmp, a_and, a_or, a_not, a_if, a_andV, a_orV, a_notV, a_bl, a_nil, a_cons, a_tup, a_lst, a_call, a_callF, a_callIO, a_seq, a_next, a_ret, a_retN, a_drop, a_break, a_cont, a_ifS, a_asg, a_asgG, a_app, a_setI, a_iter, a_rng, a_for, a_slice, a_part0, a_part1, a_lc, a_yes, l_val, l_new, l_slot, f_val, f_new, f_slot, t_val, t_new, t_slot, s_val, s_new, s_slot, a_look2, a_look1, a_fa0, a_fa1, a_la0, a_la1, a_fn1, a_fn2, a_gN, a_gs0, a_gs1, a_gT, a_turn, a_fg0, a_fg1, a_wp0, a_wp1, a_rs0, a_rs1, a_mkF, a_mkIO, a_owL, a_owD, a_tkT, a_tkF, a_apf, a_apb, a_apn, a_aps, e_addI, e_subI, e_mulI, e_divI, e_modI, e_negI, e_lt, e_le, e_gt, e_ge, e_is, e_isnot, a_lift, e_lenL, e_lenT, e_lenS, e_intI, e_intB, e_absI, e_truB, e_truI, e_truN, e_truL, e_truT, e_ixL, e_ixT, e_tupL, e_tupT, e_lstL, e_lstT, e_sum, cEq_int, cNe_int, fin_nx, fin_val, fin_new, fin_slot, fin_ex, finIO_nx, finIO_val, finIO_new, finIO_slot, finIO_ex, entry_eq, entryIO_eq, atI_0, atI_1, atI_2, atI_3, Option.map_some, List.set_cons_zero, List.set_cons_succ, List.getElem?_cons_zero, List.getElem?_cons_succ, List.getElem?_nil, List.getD_cons_zero, List.getD_cons_succ, List.map_cons, List.map_nil, List.length_cons, List.length_nil, List.length_map, List.replicate, List.cons_append, List.nil_append, Nat.reduceAdd, Nat.reduceSub, Nat.reduceLeDiff, Nat.reduceLT, Nat.zero_le, Int.reduceLT, Int.reduceLE, Int.reduceEq, Int.reduceNeg, if_true, if_false, Bool.false_eq_true, Bool.true_eq_false, reduceIte, Bool.or_true, Bool.true_or, Bool.false_or, Bool.or_false, Bool.and_true, Bool.and_false, Bool.true_and, Bool.false_and, Bool.not_true, Bool.not_false, decide_true, decide_false, decide_eq_true_eq, and_self, not_true_eq_false, not_false_eq_true, ite_self, a_try_ok, a_raise0, a_raise, a_h0, a_h1, a_en0, a_en1, a_se_nx, a_se_rt, a_lv0, a_lv1, a_un0, a_un1, a_cx0, a_cx1, a_cx2, a_cx3, a_xf, a_pad, a_walk, a_rev, a_par, a_chain, a_chainB, w_enum, w_zipL, w_zipT, e_max, e_min, e_and, e_sumA, e_sumAT, List.reverse_cons, List.reverse_nil, List.zip_cons_cons, List.zip_nil_left, List.zip_nil_right, a_mIndex, a_fld, a_callT, a_methD, a_make, a_val, a_newD, w_enumL, w_enumT, a_apT, a_apG, a_apL, e_ixG, e_tupF, a_no0, a_no1, e_sliceL, e_sliceT, a_ins, a_cat, e_revL, List.nil_append, List.reverse_nil, subE_BadField_BadField, in_xs_0_BadField, fc_modulus_Field, fc_size_Field, fc_prime_Field, fc_degree_Field, fc_digit_rows_Field, fc_sum_rows_Field, fc_product_rows_Field, fc_negatives_Field, fc_inverses_Field, fc_step_row_Field, subXs_BadField_RankError, subXs_BadField_ValueError, subXs_BadField_BadThing, tf_m_raised_Field_Field, tf_eq_Field]; rfl, rfl, by
        have W := whole_eq (lo := 0) (hi := q - 1) (h a ha)
        dsimp only [L_is_digit_row_1]
        generalize F_is_whole = FF at W ⊢
        simp only [bindR_ok, bindR_ex, a_bind, a_of_some, a_var, a_c, a_bin, a_un, a_test, a_tru, a_cmp, a_and, a_or, a_not, a_if, a_andV, a_orV, a_notV, a_bl, a_nil, a_cons, a_tup, a_lst, a_call, a_callF, a_callIO, a_seq, a_next, a_ret, a_retN, a_drop, a_break, a_cont, a_ifS, a_asg, a_asgG, a_app, a_setI, a_iter, a_rng, a_for, a_slice, a_part0, a_part1, a_lc, a_yes, l_val, l_new, l_slot, f_val, f_new, f_slot, t_val, t_new, t_slot, s_val, s_new, s_slot, a_look2, a_look1, a_fa0, a_fa1, a_la0, a_la1, a_fn1, a_fn2, a_gN, a_gs0, a_gs1, a_gT, a_turn, a_fg0, a_fg1, a_wp0, a_wp1, a_rs0, a_rs1, a_mkF, a_mkIO, a_owL, a_owD, a_tkT, a_tkF, a_apf, a_apb, a_apn, a_aps, e_addI, e_subI, e_mulI, e_divI, e_modI, e_negI, e_lt, e_le, e_gt, e_ge, e_is, e_isnot, a_lift, e_lenL, e_lenT, e_lenS, e_intI, e_intB, e_absI, e_truB, e_truI, e_truN, e_truL, e_truT, e_ixL, e_ixT, e_tupL, e_tupT, e_lstL, e_lstT, e_sum, cEq_int, cNe_int, fin_nx, fin_val, fin_new, fin_slot, fin_ex, finIO_nx, finIO_val, finIO_new, finIO_slot, finIO_ex, entry_eq, entryIO_eq, atI_0, atI_1, atI_2, atI_3, Option.map_some, List.set_cons_zero, List.set_cons_succ, List.getElem?_cons_zero, List.getElem?_cons_succ, List.getElem?_nil, List.getD_cons_zero, List.getD_cons_succ, List.map_cons, List.map_nil, List.length_cons, List.length_nil, List.length_map, List.replicate, List.cons_append, List.nil_append, Nat.reduceAdd, Nat.reduceSub, Nat.reduceLeDiff, Nat.reduceLT, Nat.zero_le, Int.reduceLT, Int.reduceLE, Int.reduceEq, Int.reduceNeg, if_true, if_false, Bool.false_eq_true, Bool.true_eq_false, reduceIte, Bool.or_true, Bool.true_or, Bool.false_or, Bool.or_false, Bool.and_true, Bool.and_false, Bool.true_and, Bool.false_and, Bool.not_true, Bool.not_false, decide_true, decide_false, decide_eq_true_eq, and_self, not_true_eq_false, not_false_eq_true, ite_self, a_try_ok, a_raise0, a_raise, a_h0, a_h1, a_en0, a_en1, a_se_nx, a_se_rt, a_lv0, a_lv1, a_un0, a_un1, a_cx0, a_cx1, a_cx2, a_cx3, a_xf, a_pad, a_walk, a_rev, a_par, a_chain, a_chainB, w_enum, w_zipL, w_zipT, e_max, e_min, e_and, e_sumA, e_sumAT, List.reverse_cons, List.reverse_nil, List.zip_cons_cons, List.zip_nil_left, List.zip_nil_right, a_mIndex, a_fld, a_callT, a_methD, a_make, a_val, a_newD, w_enumL, w_enumT, a_apT, a_apG, a_apL, e_ixG, e_tupF, a_no0, a_no1, e_sliceL, e_sliceT, a_ins, a_cat, e_revL, List.nil_append, List.reverse_nil, subE_BadField_BadField, in_xs_0_BadField, fc_modulus_Field, fc_size_Field, fc_prime_Field, fc_degree_Field, fc_digit_rows_Field, fc_sum_rows_Field, fc_product_rows_Field, fc_negatives_Field, fc_inverses_Field, fc_step_row_Field, subXs_BadField_RankError, subXs_BadField_ValueError, subXs_BadField_BadThing, tf_m_raised_Field_Field, tf_eq_Field, W]; rfl, f_val, rfl⟩
      rw [List.map_id'] at this
      exact this
    have al : dAllN (.lst (xs.map fun x => .bl (inR 0 (q - 1) x))) = some (.val (.bl (xs.all (inR 0 (q - 1))))) := by
      show (truIs _).map _ = _
      rw [truIs_bl]
      show some (Tk.val (.bl ((xs.map (inR 0 (q - 1))).all id))) = _
      rw [List.all_map]; rfl
    dsimp only [F_is_digit_row, B_is_digit_row]
    generalize L_is_digit_row_1 = el at lc ⊢
    generalize F_is_sequence = FF at hs ⊢
    simp only [bindR_ok, bindR_ex, a_bind, a_of_some, a_var, a_c, a_bin, a_un, a_test, a_tru, a_cmp, a_and, a_or, a_not, a_if, a_andV, a_orV, a_notV, a_bl, a_nil, a_cons, a_tup, a_lst, a_call, a_callF, a_callIO, a_seq, a_next, a_ret, a_retN, a_drop, a_break, a_cont, a_ifS, a_asg, a_asgG, a_app, a_setI, a_iter, a_rng, a_for, a_slice, a_part0, a_part1, a_lc, a_yes, l_val, l_new, l_slot, f_val, f_new, f_slot, t_val, t_new, t_slot, s_val, s_new, s_slot, a_look2, a_look1, a_fa0, a_fa1, a_la0, a_la1, a_fn1, a_fn2, a_gN, a_gs0, a_gs1, a_gT, a_turn, a_fg0, a_fg1, a_wp0, a_wp1, a_rs0, a_rs1, a_mkF, a_mkIO, a_owL, a_owD, a_tkT, a_tkF, a_apf, a_apb, a_apn, a_aps, e_addI, e_subI, e_mulI, e_divI, e_modI, e_negI, e_lt, e_le, e_gt, e_ge, e_is, e_isnot, a_lift, e_lenL, e_lenT, e_lenS, e_intI, e_intB, e_absI, e_truB, e_truI, e_truN, e_truL, e_truT, e_ixL, e_ixT, e_tupL, e_tupT, e_lstL, e_lstT, e_sum, cEq_int, cNe_int, fin_nx, fin_val, fin_new, fin_slot, fin_ex, finIO_nx, finIO_val, finIO_new, finIO_slot, finIO_ex, entry_eq, entryIO_eq, atI_0, atI_1, atI_2, atI_3, Option.map_some, List.set_cons_zero, List.set_cons_succ, List.getElem?_cons_zero, List.getElem?_cons_succ, List.getElem?_nil, List.getD_cons_zero, List.getD_cons_succ, List.map_cons, List.map_nil, List.length_cons, List.length_nil, List.length_map, List.replicate, List.cons_append, List.nil_append, Nat.reduceAdd, Nat.reduceSub, Nat.reduceLeDiff, Nat.reduceLT, Nat.zero_le, Int.reduceLT, Int.reduceLE, Int.reduceEq, Int.reduceNeg, if_true, if_false, Bool.false_eq_true, Bool.true_eq_false, reduceIte, Bool.or_true, Bool.true_or, Bool.false_or, Bool.or_false, Bool.and_true, Bool.and_false, Bool.true_and, Bool.false_and, Bool.not_true, Bool.not_false, decide_true, decide_false, decide_eq_true_eq, and_self, not_true_eq_false, not_false_eq_true, ite_self, a_try_ok, a_raise0, a_raise, a_h0, a_h1, a_en0, a_en1, a_se_nx, a_se_rt, a_lv0, a_lv1, a_un0, a_un1, a_cx0, a_cx1, a_cx2, a_cx3, a_xf, a_pad, a_walk, a_rev, a_par, a_chain, a_chainB, w_enum, w_zipL, w_zipT, e_max, e_min, e_and, e_sumA, e_sumAT, List.reverse_cons, List.reverse_nil, List.zip_cons_cons, List.zip_nil_left, List.zip_nil_right, a_mIndex, a_fld, a_callT, a_methD, a_make, a_val, a_newD, w_enumL, w_enumT, a_apT, a_apG, a_apL, e_ixG, e_tupF, a_no0, a_no1, e_sliceL, e_sliceT, a_ins, a_cat, e_revL, List.nil_append, List.reverse_nil, subE_BadField_BadField, in_xs_0_BadField, fc_modulus_Field, fc_size_Field, fc_prime_Field, fc_degree_Field, fc_digit_rows_Field, fc_sum_rows_Field, fc_product_rows_Field, fc_negatives_Field, fc_inverses_Field, fc_step_row_Field, subXs_BadField_RankError, subXs_BadField_ValueError, subXs_BadField_BadThing, tf_m_raised_Field_Field, tf_eq_Field, hs, ln, c, lc, al]
    rcases z with rfl | rfl <;> simp only [bindR_ok, bindR_ex, a_bind, a_of_some, a_var, a_c, a_bin, a_un, a_test, a_tru, a_cmp, a_and, a_or, a_not, a_if, a_andV, a_orV, a_notV, a_bl, a_nil, a_cons, a_tup, a_lst, a_call, a_callF, a_callIO, a_seq, a_next, a_ret, a_retN, a_drop, a_break, a_cont, a_ifS, a_asg, a_asgG, a_app, a_setI, a_iter, a_rng, a_for, a_slice, a_part0, a_part1, a_lc, a_yes, l_val, l_new, l_slot, f_val, f_new, f_slot, t_val, t_new, t_slot, s_val, s_new, s_slot, a_look2, a_look1, a_fa0, a_fa1, a_la0, a_la1, a_fn1, a_fn2, a_gN, a_gs0, a_gs1, a_gT, a_turn, a_fg0, a_fg1, a_wp0, a_wp1, a_rs0, a_rs1, a_mkF, a_mkIO, a_owL, a_owD, a_tkT, a_tkF, a_apf, a_apb, a_apn, a_aps, e_addI, e_subI, e_mulI, e_divI, e_modI, e_negI, e_lt, e_le, e_gt, e_ge, e_is, e_isnot, a_lift, e_lenL, e_lenT, e_lenS, e_intI, e_intB, e_absI, e_truB, e_truI, e_truN, e_truL, e_truT, e_ixL, e_ixT, e_tupL, e_tupT, e_lstL, e_lstT, e_sum, cEq_int, cNe_int, fin_nx, fin_val, fin_new, fin_slot, fin_ex, finIO_nx, finIO_val, finIO_new, finIO_slot, finIO_ex, entry_eq, entryIO_eq, atI_0, atI_1, atI_2, atI_3, Option.map_some, List.set_cons_zero, List.set_cons_succ, List.getElem?_cons_zero, List.getElem?_cons_succ, List.getElem?_nil, List.getD_cons_zero, List.getD_cons_succ, List.map_cons, List.map_nil, List.length_cons, List.length_nil, List.length_map, List.replicate, List.cons_append, List.nil_append, Nat.reduceAdd, Nat.reduceSub, Nat.reduceLeDiff, Nat.reduceLT, Nat.zero_le, Int.reduceLT, Int.reduceLE, Int.reduceEq, Int.reduceNeg, if_true, if_false, Bool.false_eq_true, Bool.true_eq_false, reduceIte, Bool.or_true, Bool.true_or, Bool.false_or, Bool.or_false, Bool.and_true, Bool.and_false, Bool.true_and, Bool.false_and, Bool.not_true, Bool.not_false, decide_true, decide_false, decide_eq_true_eq, and_self, not_true_eq_false, not_false_eq_true, ite_self, a_try_ok, a_raise0, a_raise, a_h0, a_h1, a_en0, a_en1, a_se_nx, a_se_rt, a_lv0, a_lv1, a_un0, a_un1, a_cx0, a_cx1, a_cx2, a_cx3, a_xf, a_pad, a_walk, a_rev, a_par, a_chain, a_chainB, w_enum, w_zipL, w_zipT, e_max, e_min, e_and, e_sumA, e_sumAT, List.reverse_cons, List.reverse_nil, List.zip_cons_cons, List.zip_nil_left, List.zip_nil_right, a_mIndex, a_fld, a_callT, a_methD, a_make, a_val, a_newD, w_enumL, w_enumT, a_apT, a_apG, a_apL, e_ixG, e_tupF, a_no0, a_no1, e_sliceL, e_sliceT, a_ins, a_cat, e_revL, List.nil_append, List.reverse_nil, subE_BadField_BadField, in_xs_0_BadField, fc_modulus_Field, fc_size_Field, fc_prime_Field, fc_degree_Field, fc_digit_rows_Field, fc_sum_rows_Field, fc_product_rows_Field, fc_negatives_Field, fc_inverses_Field, fc_step_row_Field, subXs_BadField_RankError, subXs_BadField_ValueError, subXs_BadField_BadThing, tf_m_raised_Field_Field, tf_eq_Field, lc, al]
  · dsimp only [F_is_digit_row, B_is_digit_row]
    generalize F_is_sequence = FF at hs ⊢
    simp only [bindR_ok, bindR_ex, a_bind, a_of_some, a_var, a_c, a_bin, a_un, a_test, a_tru, a_cmp, a_and, a_or, a_not, a_if, a_andV, a_orV, a_notV, a_bl, a_nil, a_cons, a_tup, a_lst, a_call, a_callF, a_callIO, a_seq, a_next, a_ret, a_retN, a_drop, a_break, a_cont, a_ifS, a_asg, a_asgG, a_app, a_setI, a_iter, a_rng, a_for, a_slice, a_part0, a_part1, a_lc, a_yes, l_val, l_new, l_slot, f_val, f_new, f_slot, t_val, t_new, t_slot, s_val, s_new, s_slot, a_look2, a_look1, a_fa0, a_fa1, a_la0, a_la1, a_fn1, a_fn2, a_gN, a_gs0, a_gs1, a_gT, a_turn, a_fg0, a_fg1, a_wp0, a_wp1, a_rs0, a_rs1, a_mkF, a_mkIO, a_owL, a_owD, a_tkT, a_tkF, a_apf, a_apb, a_apn, a_aps, e_addI, e_subI, e_mulI, e_divI, e_modI, e_negI, e_lt, e_le, e_gt, e_ge, e_is, e_isnot, a_lift, e_lenL, e_lenT, e_lenS, e_intI, e_intB, e_absI, e_truB, e_truI, e_truN, e_truL, e_truT, e_ixL, e_ixT, e_tupL, e_tupT, e_lstL, e_lstT, e_sum, cEq_int, cNe_int, fin_nx, fin_val, fin_new, fin_slot, fin_ex, finIO_nx, finIO_val, finIO_new, finIO_slot, finIO_ex, entry_eq, entryIO_eq, atI_0, atI_1, atI_2, atI_3, Option.map_some, List.set_cons_zero, List.set_cons_succ, List.getElem?_cons_zero, List.getElem?_cons_succ, List.getElem?_nil, List.getD_cons_zero, List.getD_cons_succ, List.map_cons, List.map_nil, List.length_cons, List.length_nil, List.length_map, List.replicate, List.cons_append, List.nil_append, Nat.reduceAdd, Nat.reduceSub, Nat.reduceLeDiff, Nat.reduceLT, Nat.zero_le, Int.reduceLT, Int.reduceLE, Int.reduceEq, Int.reduceNeg, if_true, if_false, Bool.false_eq_true, Bool.true_eq_false, reduceIte, Bool.or_true, Bool.true_or, Bool.false_or, Bool.or_false, Bool.and_true, Bool.and_false, Bool.true_and, Bool.false_and, Bool.not_true, Bool.not_false, decide_true, decide_false, decide_eq_true_eq, and_self, not_true_eq_false, not_false_eq_true, ite_self, a_try_ok, a_raise0, a_raise, a_h0, a_h1, a_en0, a_en1, a_se_nx, a_se_rt, a_lv0, a_lv1, a_un0, a_un1, a_cx0, a_cx1, a_cx2, a_cx3, a_xf, a_pad, a_walk, a_rev, a_par, a_chain, a_chainB, w_enum, w_zipL, w_zipT, e_max, e_min, e_and, e_sumA, e_sumAT, List.reverse_cons, List.reverse_nil, List.zip_cons_cons, List.zip_nil_left, List.zip_nil_right, a_mIndex, a_fld, a_callT, a_methD, a_make, a_val, a_newD, w_enumL, w_enumT, a_apT, a_apG, a_apL, e_ixG, e_tupF, a_no0, a_no1, e_sliceL, e_sliceT, a_ins, a_cat, e_revL, List.nil_append, List.reverse_nil, subE_BadField_BadField, in_xs_0_BadField, fc_modulus_Field, fc_size_Field, fc_prime_Field, fc_degree_Field, fc_digit_rows_Field, fc_sum_rows_Field, fc_product_rows_Field, fc_negatives_Field, fc_inverses_Field, fc_step_row_Field, subXs_BadField_RankError, subXs_BadField_ValueError, subXs_BadField_BadThing, tf_m_raised_Field_Field, tf_eq_Field, hs, ln, c]
/-! ### words of refusal -/
def isI : D → Bool
  | .int _ => true
  | _ => false
theorem lawwhole_eq {d : D} (h : plainI d = true) : F__law_whole [d] = .ok false (.bl (isI d)) .non := by
  have h1 := isi_int h
  have h2 := isi_bool h
  cases d with
  | _ => first
    | (cases h; done)
    | (dsimp only at h1 h2; simp only [F__law_whole, B__law_whole, bindR_ok, bindR_ex, a_bind, a_of_some, a_var, a_c, a_bin, a_un, a_test, a_tru, a_cmp, a_and, a_or, a_not, a_if, a_andV, a_orV, a_notV, a_bl, a_nil, a_cons, a_tup, a_lst, a_call, a_callF, a_callIO, a_seq, a_next, a_ret, a_retN, a_drop, a_break, a_cont, a_ifS, a_asg, a_asgG, a_app, a_setI, a_iter, a_rng, a_for, a_slice, a_part0, a_part1, a_lc, a_yes, l_val, l_new, l_slot, f_val, f_new, f_slot, t_val, t_new, t_slot, s_val, s_new, s_slot, a_look2, a_look1, a_fa0, a_fa1, a_la0, a_la1, a_fn1, a_fn2, a_gN, a_gs0, a_gs1, a_gT, a_turn, a_fg0, a_fg1, a_wp0, a_wp1, a_rs0, a_rs1, a_mkF, a_mkIO, a_owL, a_owD, a_tkT, a_tkF, a_apf, a_apb, a_apn, a_aps, e_addI, e_subI, e_mulI, e_divI, e_modI, e_negI, e_lt, e_le, e_gt, e_ge, e_is, e_isnot, a_lift, e_lenL, e_lenT, e_lenS, e_intI, e_intB, e_absI, e_truB, e_truI, e_truN, e_truL, e_truT, e_ixL, e_ixT, e_tupL, e_tupT, e_lstL, e_lstT, e_sum, cEq_int, cNe_int, fin_nx, fin_val, fin_new, fin_slot, fin_ex, finIO_nx, finIO_val, finIO_new, finIO_slot, finIO_ex, entry_eq, entryIO_eq, atI_0, atI_1, atI_2, atI_3, Option.map_some, List.set_cons_zero, List.set_cons_succ, List.getElem?_cons_zero, List.getElem?_cons_succ, List.getElem?_nil, List.getD_cons_zero, List.getD_cons_succ, List.map_cons, List.map_nil, List.length_cons, List.length_nil, List.length_map, List.replicate, List.cons_append, List.nil_append, Nat.reduceAdd, Nat.reduceSub, Nat.reduceLeDiff, Nat.reduceLT, Nat.zero_le, Int.reduceLT, Int.reduceLE, Int.reduceEq, Int.reduceNeg, if_true, if_false, Bool.false_eq_true, Bool.true_eq_false, reduceIte, Bool.or_true, Bool.true_or, Bool.false_or, Bool.or_false, Bool.and_true, Bool.and_false, Bool.true_and, Bool.false_and, Bool.not_true, Bool.not_false, decide_true, decide_false, decide_eq_true_eq, and_self, not_true_eq_false, not_false_eq_true, ite_self, a_try_ok, a_raise0, a_raise, a_h0, a_h1, a_en0, a_en1, a_se_nx, a_se_rt, a_lv0, a_lv1, a_un0, a_un1, a_cx0, a_cx1, a_cx2, a_cx3, a_xf, a_pad, a_walk, a_rev, a_par, a_chain, a_chainB, w_enum, w_zipL, w_zipT, e_max, e_min, e_and, e_sumA, e_sumAT, List.reverse_cons, List.reverse_nil, List.zip_cons_cons, List.zip_nil_left, List.zip_nil_right, a_mIndex, a_fld, a_callT, a_methD, a_make, a_val, a_newD, w_enumL, w_enumT, a_apT, a_apG, a_apL, e_ixG, e_tupF, a_no0, a_no1, e_sliceL, e_sliceT, a_ins, a_cat, e_revL, List.nil_append, List.reverse_nil, subE_BadField_BadField, in_xs_0_BadField, fc_modulus_Field, fc_size_Field, fc_prime_Field, fc_degree_Field, fc_digit_rows_Field, fc_sum_rows_Field, fc_product_rows_Field, fc_negatives_Field, fc_inverses_Field, fc_step_row_Field, subXs_BadField_RankError, subXs_BadField_ValueError, subXs_BadField_BadThing, tf_m_raised_Field_Field, tf_eq_Field, h1, h2]; try rfl)
def oddP (P : D) : Prop := P = .bl true ∨ P = .int 0 ∨ P = .int (-2) ∨ P = .int 4 ∨ P = .int 5 ∨ P = .non ∨ P = .str "2" ∨ P = .tup [.int 2] ∨ P = .int 1 ∨ P = .int (-3) ∨ P = .str "3"
def oddM (M : D) : Prop := M = .non ∨ M = .str "11" ∨ M = .int 3 ∨ M = .dic [] [] ∨ M = .bl true
theorem oddP_pl {P : D} (h : oddP P) : plainI P = true ∧ inR 2 3 P = false := by
  rcases h with rfl | rfl | rfl | rfl | rfl | rfl | rfl | rfl | rfl | rfl | rfl <;> exact ⟨rfl, rfl⟩
theorem fault_prime {P M : D} (h : oddP P) : F_field_fault [P, M] = .ok false (.str "prime") .non := by
  obtain ⟨h1, h2⟩ := oddP_pl h
  have w := whole_eq (lo := 2) (hi := 3) h1
  rw [h2] at w
  simp only [F_field_fault, B_field_fault, bindR_ok, bindR_ex, a_bind, a_of_some, a_var, a_c, a_bin, a_un, a_test, a_tru, a_cmp, a_and, a_or, a_not, a_if, a_andV, a_orV, a_notV, a_bl, a_nil, a_cons, a_tup, a_lst, a_call, a_callF, a_callIO, a_seq, a_next, a_ret, a_retN, a_drop, a_break, a_cont, a_ifS, a_asg, a_asgG, a_app, a_setI, a_iter, a_rng, a_for, a_slice, a_part0, a_part1, a_lc, a_yes, l_val, l_new, l_slot, f_val, f_new, f_slot, t_val, t_new, t_slot, s_val, s_new, s_slot, a_look2, a_look1, a_fa0, a_fa1, a_la0, a_la1, a_fn1, a_fn2, a_gN, a_gs0, a_gs1, a_gT, a_turn, a_fg0, a_fg1, a_wp0, a_wp1, a_rs0, a_rs1, a_mkF, a_mkIO, a_owL, a_owD, a_tkT, a_tkF, a_apf, a_apb, a_apn, a_aps, e_addI, e_subI, e_mulI, e_divI, e_modI, e_negI, e_lt, e_le, e_gt, e_ge, e_is, e_isnot, a_lift, e_lenL, e_lenT, e_lenS, e_intI, e_intB, e_absI, e_truB, e_truI, e_truN, e_truL, e_truT, e_ixL, e_ixT, e_tupL, e_tupT, e_lstL, e_lstT, e_sum, cEq_int, cNe_int, fin_nx, fin_val, fin_new, fin_slot, fin_ex, finIO_nx, finIO_val, finIO_new, finIO_slot, finIO_ex, entry_eq, entryIO_eq, atI_0, atI_1, atI_2, atI_3, Option.map_some, List.set_cons_zero, List.set_cons_succ, List.getElem?_cons_zero, List.getElem?_cons_succ, List.getElem?_nil, List.getD_cons_zero, List.getD_cons_succ, List.map_cons, List.map_nil, List.length_cons, List.length_nil, List.length_map, List.replicate, List.cons_append, List.nil_append, Nat.reduceAdd, Nat.reduceSub, Nat.reduceLeDiff, Nat.reduceLT, Nat.zero_le, Int.reduceLT, Int.reduceLE, Int.reduceEq, Int.reduceNeg, if_true, if_false, Bool.false_eq_true, Bool.true_eq_false, reduceIte, Bool.or_true, Bool.true_or, Bool.false_or, Bool.or_false, Bool.and_true, Bool.and_false, Bool.true_and, Bool.false_and, Bool.not_true, Bool.not_false, decide_true, decide_false, decide_eq_true_eq, and_self, not_true_eq_false, not_false_eq_true, ite_self, a_try_ok, a_raise0, a_raise, a_h0, a_h1, a_en0, a_en1, a_se_nx, a_se_rt, a_lv0, a_lv1, a_un0, a_un1, a_cx0, a_cx1, a_cx2, a_cx3, a_xf, a_pad, a_walk, a_rev, a_par, a_chain, a_chainB, w_enum, w_zipL, w_zipT, e_max, e_min, e_and, e_sumA, e_sumAT, List.reverse_cons, List.reverse_nil, List.zip_cons_cons, List.zip_nil_left, List.zip_nil_right, a_mIndex, a_fld, a_callT, a_methD, a_make, a_val, a_newD, w_enumL, w_enumT, a_apT, a_apG, a_apL, e_ixG, e_tupF, a_no0, a_no1, e_sliceL, e_sliceT, a_ins, a_cat, e_revL, List.nil_append, List.reverse_nil, subE_BadField_BadField, in_xs_0_BadField, fc_modulus_Field, fc_size_Field, fc_prime_Field, fc_degree_Field, fc_digit_rows_Field, fc_sum_rows_Field, fc_product_rows_Field, fc_negatives_Field, fc_inverses_Field, fc_step_row_Field, subXs_BadField_RankError, subXs_BadField_ValueError, subXs_BadField_BadThing, tf_m_raised_Field_Field, tf_eq_Field, w]
theorem nin (i : Int) (h : i ≠ 2) (h3 : i ≠ 3) : cNotIn (.int i) (.tup [.int 2, .int 3]) = some true := by
  have e : cNotIn (.int i) (.tup [.int 2, .int 3]) = some (!((decide ((2 : Int) = i)) || ((decide ((3 : Int) = i)) || false))) := rfl
  rw [e, decide_eq_false (fun z => h z.symm), decide_eq_false (fun z => h3 z.symm)]; rfl
theorem due_prime {P M : D} (h : oddP P) : F__law_due [P, M] = .ok false (.str "prime") .non := by
  obtain ⟨h1, h2⟩ := oddP_pl h
  have w := lawwhole_eq h1
  rcases h with rfl | rfl | rfl | rfl | rfl | rfl | rfl | rfl | rfl | rfl | rfl
  all_goals (dsimp only [isI] at w; simp only [F__law_due, B__law_due, bindR_ok, bindR_ex, a_bind, a_of_some, a_var, a_c, a_bin, a_un, a_test, a_tru, a_cmp, a_and, a_or, a_not, a_if, a_andV, a_orV, a_notV, a_bl, a_nil, a_cons, a_tup, a_lst, a_call, a_callF, a_callIO, a_seq, a_next, a_ret, a_retN, a_drop, a_break, a_cont, a_ifS, a_asg, a_asgG, a_app, a_setI, a_iter, a_rng, a_for, a_slice, a_part0, a_part1, a_lc, a_yes, l_val, l_new, l_slot, f_val, f_new, f_slot, t_val, t_new, t_slot, s_val, s_new, s_slot, a_look2, a_look1, a_fa0, a_fa1, a_la0, a_la1, a_fn1, a_fn2, a_gN, a_gs0, a_gs1, a_gT, a_turn, a_fg0, a_fg1, a_wp0, a_wp1, a_rs0, a_rs1, a_mkF, a_mkIO, a_owL, a_owD, a_tkT, a_tkF, a_apf, a_apb, a_apn, a_aps, e_addI, e_subI, e_mulI, e_divI, e_modI, e_negI, e_lt, e_le, e_gt, e_ge, e_is, e_isnot, a_lift, e_lenL, e_lenT, e_lenS, e_intI, e_intB, e_absI, e_truB, e_truI, e_truN, e_truL, e_truT, e_ixL, e_ixT, e_tupL, e_tupT, e_lstL, e_lstT, e_sum, cEq_int, cNe_int, fin_nx, fin_val, fin_new, fin_slot, fin_ex, finIO_nx, finIO_val, finIO_new, finIO_slot, finIO_ex, entry_eq, entryIO_eq, atI_0, atI_1, atI_2, atI_3, Option.map_some, List.set_cons_zero, List.set_cons_succ, List.getElem?_cons_zero, List.getElem?_cons_succ, List.getElem?_nil, List.getD_cons_zero, List.getD_cons_succ, List.map_cons, List.map_nil, List.length_cons, List.length_nil, List.length_map, List.replicate, List.cons_append, List.nil_append, Nat.reduceAdd, Nat.reduceSub, Nat.reduceLeDiff, Nat.reduceLT, Nat.zero_le, Int.reduceLT, Int.reduceLE, Int.reduceEq, Int.reduceNeg, if_true, if_false, Bool.false_eq_true, Bool.true_eq_false, reduceIte, Bool.or_true, Bool.true_or, Bool.false_or, Bool.or_false, Bool.and_true, Bool.and_false, Bool.true_and, Bool.false_and, Bool.not_true, Bool.not_false, decide_true, decide_false, decide_eq_true_eq, and_self, not_true_eq_false, not_false_eq_true, ite_self, a_try_ok, a_raise0, a_raise, a_h0, a_h1, a_en0, a_en1, a_se_nx, a_se_rt, a_lv0, a_lv1, a_un0, a_un1, a_cx0, a_cx1, a_cx2, a_cx3, a_xf, a_pad, a_walk, a_rev, a_par, a_chain, a_chainB, w_enum, w_zipL, w_zipT, e_max, e_min, e_and, e_sumA, e_sumAT, List.reverse_cons, List.reverse_nil, List.zip_cons_cons, List.zip_nil_left, List.zip_nil_right, a_mIndex, a_fld, a_callT, a_methD, a_make, a_val, a_newD, w_enumL, w_enumT, a_apT, a_apG, a_apL, e_ixG, e_tupF, a_no0, a_no1, e_sliceL, e_sliceT, a_ins, a_cat, e_revL, List.nil_append, List.reverse_nil, subE_BadField_BadField, in_xs_0_BadField, fc_modulus_Field, fc_size_Field, fc_prime_Field, fc_degree_Field, fc_digit_rows_Field, fc_sum_rows_Field, fc_product_rows_Field, fc_negatives_Field, fc_inverses_Field, fc_step_row_Field, subXs_BadField_RankError, subXs_BadField_ValueError, subXs_BadField_BadThing, tf_m_raised_Field_Field, tf_eq_Field, w, nin (0) (by decide) (by decide), nin (-2) (by decide) (by decide), nin (4) (by decide) (by decide), nin (5) (by decide) (by decide), nin (1) (by decide) (by decide), nin (-3) (by decide) (by decide)])
section
variable {q : Nat} {M : D} {xs : List D}
theorem q_in (h : q = 2 ∨ q = 3) : cNotIn (.int (q : Int)) (.tup [.int 2, .int 3]) = some false := by rcases h with rfl | rfl <;> rfl
theorem q_whole (h : q = 2 ∨ q = 3) : F_is_whole [.int q, .int 2, .int 3] = .ok false (.bl true) .non := by
  have w := whole_eq (lo := 2) (hi := 3) (d := .int (q : Int)) rfl
  rw [show inR 2 3 (.int (q : Int)) = true by rcases h with rfl | rfl <;> rfl] at w
  exact w
theorem fault_modulus (h : q = 2 ∨ q = 3) (g : oddM M) : F_field_fault [.int q, M] = .ok false (.str "modulus") .non := by
  have w := q_whole h
  have s := seq_eq (d := M) (by rcases g with rfl | rfl | rfl | rfl | rfl <;> rfl)
  rcases g with rfl | rfl | rfl | rfl | rfl <;> (dsimp only at s; simp only [F_field_fault, B_field_fault, bindR_ok, bindR_ex, a_bind, a_of_some, a_var, a_c, a_bin, a_un, a_test, a_tru, a_cmp, a_and, a_or, a_not, a_if, a_andV, a_orV, a_notV, a_bl, a_nil, a_cons, a_tup, a_lst, a_call, a_callF, a_callIO, a_seq, a_next, a_ret, a_retN, a_drop, a_break, a_cont, a_ifS, a_asg, a_asgG, a_app, a_setI, a_iter, a_rng, a_for, a_slice, a_part0, a_part1, a_lc, a_yes, l_val, l_new, l_slot, f_val, f_new, f_slot, t_val, t_new, t_slot, s_val, s_new, s_slot, a_look2, a_look1, a_fa0, a_fa1, a_la0, a_la1, a_fn1, a_fn2, a_gN, a_gs0, a_gs1, a_gT, a_turn, a_fg0, a_fg1, a_wp0, a_wp1, a_rs0, a_rs1, a_mkF, a_mkIO, a_owL, a_owD, a_tkT, a_tkF, a_apf, a_apb, a_apn, a_aps, e_addI, e_subI, e_mulI, e_divI, e_modI, e_negI, e_lt, e_le, e_gt, e_ge, e_is, e_isnot, a_lift, e_lenL, e_lenT, e_lenS, e_intI, e_intB, e_absI, e_truB, e_truI, e_truN, e_truL, e_truT, e_ixL, e_ixT, e_tupL, e_tupT, e_lstL, e_lstT, e_sum, cEq_int, cNe_int, fin_nx, fin_val, fin_new, fin_slot, fin_ex, finIO_nx, finIO_val, finIO_new, finIO_slot, finIO_ex, entry_eq, entryIO_eq, atI_0, atI_1, atI_2, atI_3, Option.map_some, List.set_cons_zero, List.set_cons_succ, List.getElem?_cons_zero, List.getElem?_cons_succ, List.getElem?_nil, List.getD_cons_zero, List.getD_cons_succ, List.map_cons, List.map_nil, List.length_cons, List.length_nil, List.length_map, List.replicate, List.cons_append, List.nil_append, Nat.reduceAdd, Nat.reduceSub, Nat.reduceLeDiff, Nat.reduceLT, Nat.zero_le, Int.reduceLT, Int.reduceLE, Int.reduceEq, Int.reduceNeg, if_true, if_false, Bool.false_eq_true, Bool.true_eq_false, reduceIte, Bool.or_true, Bool.true_or, Bool.false_or, Bool.or_false, Bool.and_true, Bool.and_false, Bool.true_and, Bool.false_and, Bool.not_true, Bool.not_false, decide_true, decide_false, decide_eq_true_eq, and_self, not_true_eq_false, not_false_eq_true, ite_self, a_try_ok, a_raise0, a_raise, a_h0, a_h1, a_en0, a_en1, a_se_nx, a_se_rt, a_lv0, a_lv1, a_un0, a_un1, a_cx0, a_cx1, a_cx2, a_cx3, a_xf, a_pad, a_walk, a_rev, a_par, a_chain, a_chainB, w_enum, w_zipL, w_zipT, e_max, e_min, e_and, e_sumA, e_sumAT, List.reverse_cons, List.reverse_nil, List.zip_cons_cons, List.zip_nil_left, List.zip_nil_right, a_mIndex, a_fld, a_callT, a_methD, a_make, a_val, a_newD, w_enumL, w_enumT, a_apT, a_apG, a_apL, e_ixG, e_tupF, a_no0, a_no1, e_sliceL, e_sliceT, a_ins, a_cat, e_revL, List.nil_append, List.reverse_nil, subE_BadField_BadField, in_xs_0_BadField, fc_modulus_Field, fc_size_Field, fc_prime_Field, fc_degree_Field, fc_digit_rows_Field, fc_sum_rows_Field, fc_product_rows_Field, fc_negatives_Field, fc_inverses_Field, fc_step_row_Field, subXs_BadField_RankError, subXs_BadField_ValueError, subXs_BadField_BadThing, tf_m_raised_Field_Field, tf_eq_Field, w, s])
theorem due_modulus (h : q = 2 ∨ q = 3) (g : oddM M) : F__law_due [.int q, M] = .ok false (.str "modulus") .non := by
  have w := lawwhole_eq (d := .int (q : Int)) rfl
  dsimp only [isI] at w
  have n := q_in h
  have s := isi_seq (d := M) (by rcases g with rfl | rfl | rfl | rfl | rfl <;> rfl)
  rcases g with rfl | rfl | rfl | rfl | rfl <;> (dsimp only at s; simp only [F__law_due, B__law_due, bindR_ok, bindR_ex, a_bind, a_of_some, a_var, a_c, a_bin, a_un, a_test, a_tru, a_cmp, a_and, a_or, a_not, a_if, a_andV, a_orV, a_notV, a_bl, a_nil, a_cons, a_tup, a_lst, a_call, a_callF, a_callIO, a_seq, a_next, a_ret, a_retN, a_drop, a_break, a_cont, a_ifS, a_asg, a_asgG, a_app, a_setI, a_iter, a_rng, a_for, a_slice, a_part0, a_part1, a_lc, a_yes, l_val, l_new, l_slot, f_val, f_new, f_slot, t_val, t_new, t_slot, s_val, s_new, s_slot, a_look2, a_look1, a_fa0, a_fa1, a_la0, a_la1, a_fn1, a_fn2, a_gN, a_gs0, a_gs1, a_gT, a_turn, a_fg0, a_fg1, a_wp0, a_wp1, a_rs0, a_rs1, a_mkF, a_mkIO, a_owL, a_owD, a_tkT, a_tkF, a_apf, a_apb, a_apn, a_aps, e_addI, e_subI, e_mulI, e_divI, e_modI, e_negI, e_lt, e_le, e_gt, e_ge, e_is, e_isnot, a_lift, e_lenL, e_lenT, e_lenS, e_intI, e_intB, e_absI, e_truB, e_truI, e_truN, e_truL, e_truT, e_ixL, e_ixT, e_tupL, e_tupT, e_lstL, e_lstT, e_sum, cEq_int, cNe_int, fin_nx, fin_val, fin_new, fin_slot, fin_ex, finIO_nx, finIO_val, finIO_new, finIO_slot, finIO_ex, entry_eq, entryIO_eq, atI_0, atI_1, atI_2, atI_3, Option.map_some, List.set_cons_zero, List.set_cons_succ, List.getElem?_cons_zero, List.getElem?_cons_succ, List.getElem?_nil, List.getD_cons_zero, List.getD_cons_succ, List.map_cons, List.map_nil, List.length_cons, List.length_nil, List.length_map, List.replicate, List.cons_append, List.nil_append, Nat.reduceAdd, Nat.reduceSub, Nat.reduceLeDiff, Nat.reduceLT, Nat.zero_le, Int.reduceLT, Int.reduceLE, Int.reduceEq, Int.reduceNeg, if_true, if_false, Bool.false_eq_true, Bool.true_eq_false, reduceIte, Bool.or_true, Bool.true_or, Bool.false_or, Bool.or_false, Bool.and_true, Bool.and_false, Bool.true_and, Bool.false_and, Bool.not_true, Bool.not_false, decide_true, decide_false, decide_eq_true_eq, and_self, not_true_eq_false, not_false_eq_true, ite_self, a_try_ok, a_raise0, a_raise, a_h0, a_h1, a_en0, a_en1, a_se_nx, a_se_rt, a_lv0, a_lv1, a_un0, a_un1, a_cx0, a_cx1, a_cx2, a_cx3, a_xf, a_pad, a_walk, a_rev, a_par, a_chain, a_chainB, w_enum, w_zipL, w_zipT, e_max, e_min, e_and, e_sumA, e_sumAT, List.reverse_cons, List.reverse_nil, List.zip_cons_cons, List.zip_nil_left, List.zip_nil_right, a_mIndex, a_fld, a_callT, a_methD, a_make, a_val, a_newD, w_enumL, w_enumT, a_apT, a_apG, a_apL, e_ixG, e_tupF, a_no0, a_no1, e_sliceL, e_sliceT, a_ins, a_cat, e_revL, List.nil_append, List.reverse_nil, subE_BadField_BadField, in_xs_0_BadField, fc_modulus_Field, fc_size_Field, fc_prime_Field, fc_degree_Field, fc_digit_rows_Field, fc_sum_rows_Field, fc_product_rows_Field, fc_negatives_Field, fc_inverses_Field, fc_step_row_Field, subXs_BadField_RankError, subXs_BadField_ValueError, subXs_BadField_BadThing, tf_m_raised_Field_Field, tf_eq_Field, w, n, s])
theorem fault_len (h : q = 2 ∨ q = 3) (z : SeqD M xs) (c : xs.length < 2 ∨ 5 < xs.length) : F_field_fault [.int q, M] = .ok false (.str "modulus") .non := by
  have w := q_whole h
  have s := z.seq
  have l := z.len
  rcases c with c | c
  · have c1 : ¬ (2 : Int) ≤ (xs.length : Int) := by omega
    simp only [F_field_fault, B_field_fault, bindR_ok, bindR_ex, a_bind, a_of_some, a_var, a_c, a_bin, a_un, a_test, a_tru, a_cmp, a_and, a_or, a_not, a_if, a_andV, a_orV, a_notV, a_bl, a_nil, a_cons, a_tup, a_lst, a_call, a_callF, a_callIO, a_seq, a_next, a_ret, a_retN, a_drop, a_break, a_cont, a_ifS, a_asg, a_asgG, a_app, a_setI, a_iter, a_rng, a_for, a_slice, a_part0, a_part1, a_lc, a_yes, l_val, l_new, l_slot, f_val, f_new, f_slot, t_val, t_new, t_slot, s_val, s_new, s_slot, a_look2, a_look1, a_fa0, a_fa1, a_la0, a_la1, a_fn1, a_fn2, a_gN, a_gs0, a_gs1, a_gT, a_turn, a_fg0, a_fg1, a_wp0, a_wp1, a_rs0, a_rs1, a_mkF, a_mkIO, a_owL, a_owD, a_tkT, a_tkF, a_apf, a_apb, a_apn, a_aps, e_addI, e_subI, e_mulI, e_divI, e_modI, e_negI, e_lt, e_le, e_gt, e_ge, e_is, e_isnot, a_lift, e_lenL, e_lenT, e_lenS, e_intI, e_intB, e_absI, e_truB, e_truI, e_truN, e_truL, e_truT, e_ixL, e_ixT, e_tupL, e_tupT, e_lstL, e_lstT, e_sum, cEq_int, cNe_int, fin_nx, fin_val, fin_new, fin_slot, fin_ex, finIO_nx, finIO_val, finIO_new, finIO_slot, finIO_ex, entry_eq, entryIO_eq, atI_0, atI_1, atI_2, atI_3, Option.map_some, List.set_cons_zero, List.set_cons_succ, List.getElem?_cons_zero, List.getElem?_cons_succ, List.getElem?_nil, List.getD_cons_zero, List.getD_cons_succ, List.map_cons, List.map_nil, List.length_cons, List.length_nil, List.length_map, List.replicate, List.cons_append, List.nil_append, Nat.reduceAdd, Nat.reduceSub, Nat.reduceLeDiff, Nat.reduceLT, Nat.zero_le, Int.reduceLT, Int.reduceLE, Int.reduceEq, Int.reduceNeg, if_true, if_false, Bool.false_eq_true, Bool.true_eq_false, reduceIte, Bool.or_true, Bool.true_or, Bool.false_or, Bool.or_false, Bool.and_true, Bool.and_false, Bool.true_and, Bool.false_and, Bool.not_true, Bool.not_false, decide_true, decide_false, decide_eq_true_eq, and_self, not_true_eq_false, not_false_eq_true, ite_self, a_try_ok, a_raise0, a_raise, a_h0, a_h1, a_en0, a_en1, a_se_nx, a_se_rt, a_lv0, a_lv1, a_un0, a_un1, a_cx0, a_cx1, a_cx2, a_cx3, a_xf, a_pad, a_walk, a_rev, a_par, a_chain, a_chainB, w_enum, w_zipL, w_zipT, e_max, e_min, e_and, e_sumA, e_sumAT, List.reverse_cons, List.reverse_nil, List.zip_cons_cons, List.zip_nil_left, List.zip_nil_right, a_mIndex, a_fld, a_callT, a_methD, a_make, a_val, a_newD, w_enumL, w_enumT, a_apT, a_apG, a_apL, e_ixG, e_tupF, a_no0, a_no1, e_sliceL, e_sliceT, a_ins, a_cat, e_revL, List.nil_append, List.reverse_nil, subE_BadField_BadField, in_xs_0_BadField, fc_modulus_Field, fc_size_Field, fc_prime_Field, fc_degree_Field, fc_digit_rows_Field, fc_sum_rows_Field, fc_product_rows_Field, fc_negatives_Field, fc_inverses_Field, fc_step_row_Field, subXs_BadField_RankError, subXs_BadField_ValueError, subXs_BadField_BadThing, tf_m_raised_Field_Field, tf_eq_Field, w, s, l, c1, a_chainB, e_le]
  · have c1 : (2 : Int) ≤ (xs.length : Int) := by omega
    have c2 : ¬ (xs.length : Int) ≤ 5 := by omega
    simp only [F_field_fault, B_field_fault, bindR_ok, bindR_ex, a_bind, a_of_some, a_var, a_c, a_bin, a_un, a_test, a_tru, a_cmp, a_and, a_or, a_not, a_if, a_andV, a_orV, a_notV, a_bl, a_nil, a_cons, a_tup, a_lst, a_call, a_callF, a_callIO, a_seq, a_next, a_ret, a_retN, a_drop, a_break, a_cont, a_ifS, a_asg, a_asgG, a_app, a_setI, a_iter, a_rng, a_for, a_slice, a_part0, a_part1, a_lc, a_yes, l_val, l_new, l_slot, f_val, f_new, f_slot, t_val, t_new, t_slot, s_val, s_new, s_slot, a_look2, a_look1, a_fa0, a_fa1, a_la0, a_la1, a_fn1, a_fn2, a_gN, a_gs0, a_gs1, a_gT, a_turn, a_fg0, a_fg1, a_wp0, a_wp1, a_rs0, a_rs1, a_mkF, a_mkIO, a_owL, a_owD, a_tkT, a_tkF, a_apf, a_apb, a_apn, a_aps, e_addI, e_subI, e_mulI, e_divI, e_modI, e_negI, e_lt, e_le, e_gt, e_ge, e_is, e_isnot, a_lift, e_lenL, e_lenT, e_lenS, e_intI, e_intB, e_absI, e_truB, e_truI, e_truN, e_truL, e_truT, e_ixL, e_ixT, e_tupL, e_tupT, e_lstL, e_lstT, e_sum, cEq_int, cNe_int, fin_nx, fin_val, fin_new, fin_slot, fin_ex, finIO_nx, finIO_val, finIO_new, finIO_slot, finIO_ex, entry_eq, entryIO_eq, atI_0, atI_1, atI_2, atI_3, Option.map_some, List.set_cons_zero, List.set_cons_succ, List.getElem?_cons_zero, List.getElem?_cons_succ, List.getElem?_nil, List.getD_cons_zero, List.getD_cons_succ, List.map_cons, List.map_nil, List.length_cons, List.length_nil, List.length_map, List.replicate, List.cons_append, List.nil_append, Nat.reduceAdd, Nat.reduceSub, Nat.reduceLeDiff, Nat.reduceLT, Nat.zero_le, Int.reduceLT, Int.reduceLE, Int.reduceEq, Int.reduceNeg, if_true, if_false, Bool.false_eq_true, Bool.true_eq_false, reduceIte, Bool.or_true, Bool.true_or, Bool.false_or, Bool.or_false, Bool.and_true, Bool.and_false, Bool.true_and, Bool.false_and, Bool.not_true, Bool.not_false, decide_true, decide_false, decide_eq_true_eq, and_self, not_true_eq_false, not_false_eq_true, ite_self, a_try_ok, a_raise0, a_raise, a_h0, a_h1, a_en0, a_en1, a_se_nx, a_se_rt, a_lv0, a_lv1, a_un0, a_un1, a_cx0, a_cx1, a_cx2, a_cx3, a_xf, a_pad, a_walk, a_rev, a_par, a_chain, a_chainB, w_enum, w_zipL, w_zipT, e_max, e_min, e_and, e_sumA, e_sumAT, List.reverse_cons, List.reverse_nil, List.zip_cons_cons, List.zip_nil_left, List.zip_nil_right, a_mIndex, a_fld, a_callT, a_methD, a_make, a_val, a_newD, w_enumL, w_enumT, a_apT, a_apG, a_apL, e_ixG, e_tupF, a_no0, a_no1, e_sliceL, e_sliceT, a_ins, a_cat, e_revL, List.nil_append, List.reverse_nil, subE_BadField_BadField, in_xs_0_BadField, fc_modulus_Field, fc_size_Field, fc_prime_Field, fc_degree_Field, fc_digit_rows_Field, fc_sum_rows_Field, fc_product_rows_Field, fc_negatives_Field, fc_inverses_Field, fc_step_row_Field, subXs_BadField_RankError, subXs_BadField_ValueError, subXs_BadField_BadThing, tf_m_raised_Field_Field, tf_eq_Field, w, s, l, c1, c2, a_chainB, e_le]
theorem z_isi (z : SeqD M xs) : dIsi subIs icIs M (.tup [.ty "list", .ty "tuple"]) = some (.val (.bl true)) := by
  rcases z with rfl | rfl <;> exact isi_seq rfl
theorem due_len (h : q = 2 ∨ q = 3) (z : SeqD M xs) (c : xs.length < 2 ∨ 5 < xs.length) : F__law_due [.int q, M] = .ok false (.str "modulus") .non := by
  have w := lawwhole_eq (d := .int (q : Int)) rfl
  dsimp only [isI] at w
  have n := q_in h
  have s := z_isi z
  have l := z.len
  rcases c with c | c
  · have c1 : (xs.length : Int) < 2 := by omega
    simp only [F__law_due, B__law_due, bindR_ok, bindR_ex, a_bind, a_of_some, a_var, a_c, a_bin, a_un, a_test, a_tru, a_cmp, a_and, a_or, a_not, a_if, a_andV, a_orV, a_notV, a_bl, a_nil, a_cons, a_tup, a_lst, a_call, a_callF, a_callIO, a_seq, a_next, a_ret, a_retN, a_drop, a_break, a_cont, a_ifS, a_asg, a_asgG, a_app, a_setI, a_iter, a_rng, a_for, a_slice, a_part0, a_part1, a_lc, a_yes, l_val, l_new, l_slot, f_val, f_new, f_slot, t_val, t_new, t_slot, s_val, s_new, s_slot, a_look2, a_look1, a_fa0, a_fa1, a_la0, a_la1, a_fn1, a_fn2, a_gN, a_gs0, a_gs1, a_gT, a_turn, a_fg0, a_fg1, a_wp0, a_wp1, a_rs0, a_rs1, a_mkF, a_mkIO, a_owL, a_owD, a_tkT, a_tkF, a_apf, a_apb, a_apn, a_aps, e_addI, e_subI, e_mulI, e_divI, e_modI, e_negI, e_lt, e_le, e_gt, e_ge, e_is, e_isnot, a_lift, e_lenL, e_lenT, e_lenS, e_intI, e_intB, e_absI, e_truB, e_truI, e_truN, e_truL, e_truT, e_ixL, e_ixT, e_tupL, e_tupT, e_lstL, e_lstT, e_sum, cEq_int, cNe_int, fin_nx, fin_val, fin_new, fin_slot, fin_ex, finIO_nx, finIO_val, finIO_new, finIO_slot, finIO_ex, entry_eq, entryIO_eq, atI_0, atI_1, atI_2, atI_3, Option.map_some, List.set_cons_zero, List.set_cons_succ, List.getElem?_cons_zero, List.getElem?_cons_succ, List.getElem?_nil, List.getD_cons_zero, List.getD_cons_succ, List.map_cons, List.map_nil, List.length_cons, List.length_nil, List.length_map, List.replicate, List.cons_append, List.nil_append, Nat.reduceAdd, Nat.reduceSub, Nat.reduceLeDiff, Nat.reduceLT, Nat.zero_le, Int.reduceLT, Int.reduceLE, Int.reduceEq, Int.reduceNeg, if_true, if_false, Bool.false_eq_true, Bool.true_eq_false, reduceIte, Bool.or_true, Bool.true_or, Bool.false_or, Bool.or_false, Bool.and_true, Bool.and_false, Bool.true_and, Bool.false_and, Bool.not_true, Bool.not_false, decide_true, decide_false, decide_eq_true_eq, and_self, not_true_eq_false, not_false_eq_true, ite_self, a_try_ok, a_raise0, a_raise, a_h0, a_h1, a_en0, a_en1, a_se_nx, a_se_rt, a_lv0, a_lv1, a_un0, a_un1, a_cx0, a_cx1, a_cx2, a_cx3, a_xf, a_pad, a_walk, a_rev, a_par, a_chain, a_chainB, w_enum, w_zipL, w_zipT, e_max, e_min, e_and, e_sumA, e_sumAT, List.reverse_cons, List.reverse_nil, List.zip_cons_cons, List.zip_nil_left, List.zip_nil_right, a_mIndex, a_fld, a_callT, a_methD, a_make, a_val, a_newD, w_enumL, w_enumT, a_apT, a_apG, a_apL, e_ixG, e_tupF, a_no0, a_no1, e_sliceL, e_sliceT, a_ins, a_cat, e_revL, List.nil_append, List.reverse_nil, subE_BadField_BadField, in_xs_0_BadField, fc_modulus_Field, fc_size_Field, fc_prime_Field, fc_degree_Field, fc_digit_rows_Field, fc_sum_rows_Field, fc_product_rows_Field, fc_negatives_Field, fc_inverses_Field, fc_step_row_Field, subXs_BadField_RankError, subXs_BadField_ValueError, subXs_BadField_BadThing, tf_m_raised_Field_Field, tf_eq_Field, w, n, s, l, c1]
  · have c1 : ¬ (xs.length : Int) < 2 := by omega
    have c2 : (xs.length : Int) > 5 := by omega
    simp only [F__law_due, B__law_due, bindR_ok, bindR_ex, a_bind, a_of_some, a_var, a_c, a_bin, a_un, a_test, a_tru, a_cmp, a_and, a_or, a_not, a_if, a_andV, a_orV, a_notV, a_bl, a_nil, a_cons, a_tup, a_lst, a_call, a_callF, a_callIO, a_seq, a_next, a_ret, a_retN, a_drop, a_break, a_cont, a_ifS, a_asg, a_asgG, a_app, a_setI, a_iter, a_rng, a_for, a_slice, a_part0, a_part1, a_lc, a_yes, l_val, l_new, l_slot, f_val, f_new, f_slot, t_val, t_new, t_slot, s_val, s_new, s_slot, a_look2, a_look1, a_fa0, a_fa1, a_la0, a_la1, a_fn1, a_fn2, a_gN, a_gs0, a_gs1, a_gT, a_turn, a_fg0, a_fg1, a_wp0, a_wp1, a_rs0, a_rs1, a_mkF, a_mkIO, a_owL, a_owD, a_tkT, a_tkF, a_apf, a_apb, a_apn, a_aps, e_addI, e_subI, e_mulI, e_divI, e_modI, e_negI, e_lt, e_le, e_gt, e_ge, e_is, e_isnot, a_lift, e_lenL, e_lenT, e_lenS, e_intI, e_intB, e_absI, e_truB, e_truI, e_truN, e_truL, e_truT, e_ixL, e_ixT, e_tupL, e_tupT, e_lstL, e_lstT, e_sum, cEq_int, cNe_int, fin_nx, fin_val, fin_new, fin_slot, fin_ex, finIO_nx, finIO_val, finIO_new, finIO_slot, finIO_ex, entry_eq, entryIO_eq, atI_0, atI_1, atI_2, atI_3, Option.map_some, List.set_cons_zero, List.set_cons_succ, List.getElem?_cons_zero, List.getElem?_cons_succ, List.getElem?_nil, List.getD_cons_zero, List.getD_cons_succ, List.map_cons, List.map_nil, List.length_cons, List.length_nil, List.length_map, List.replicate, List.cons_append, List.nil_append, Nat.reduceAdd, Nat.reduceSub, Nat.reduceLeDiff, Nat.reduceLT, Nat.zero_le, Int.reduceLT, Int.reduceLE, Int.reduceEq, Int.reduceNeg, if_true, if_false, Bool.false_eq_true, Bool.true_eq_false, reduceIte, Bool.or_true, Bool.true_or, Bool.false_or, Bool.or_false, Bool.and_true, Bool.and_false, Bool.true_and, Bool.false_and, Bool.not_true, Bool.not_false, decide_true, decide_false, decide_eq_true_eq, and_self, not_true_eq_false, not_false_eq_true, ite_self, a_try_ok, a_raise0, a_raise, a_h0, a_h1, a_en0, a_en1, a_se_nx, a_se_rt, a_lv0, a_lv1, a_un0, a_un1, a_cx0, a_cx1, a_cx2, a_cx3, a_xf, a_pad, a_walk, a_rev, a_par, a_chain, a_chainB, w_enum, w_zipL, w_zipT, e_max, e_min, e_and, e_sumA, e_sumAT, List.reverse_cons, List.reverse_nil, List.zip_cons_cons, List.zip_nil_left, List.zip_nil_right, a_mIndex, a_fld, a_callT, a_methD, a_make, a_val, a_newD, w_enumL, w_enumT, a_apT, a_apG, a_apL, e_ixG, e_tupF, a_no0, a_no1, e_sliceL, e_sliceT, a_ins, a_cat, e_revL, List.nil_append, List.reverse_nil, subE_BadField_BadField, in_xs_0_BadField, fc_modulus_Field, fc_size_Field, fc_prime_Field, fc_degree_Field, fc_digit_rows_Field, fc_sum_rows_Field, fc_product_rows_Field, fc_negatives_Field, fc_inverses_Field, fc_step_row_Field, subXs_BadField_RankError, subXs_BadField_ValueError, subXs_BadField_BadThing, tf_m_raised_Field_Field, tf_eq_Field, w, n, s, l, c1, c2]
theorem fault_digit (h : q = 2 ∨ q = 3) (z : SeqD M xs) (c1 : 2 ≤ xs.length) (c2 : xs.length ≤ 5) (p : ∀ x ∈ xs, plainI x = true) (c : xs.all (inR 0 ((q : Int) - 1)) = false) : F_field_fault [.int q, M] = .ok false (.str "modulus") .non := by
  have w := q_whole h
  have s := z.seq
  have l := z.len
  have r := row_eq (q := q) (w := xs.length) z (Nat.le_trans c2 (by decide)) p
  rw [c, Bool.and_false] at r
  have c1 : (2 : Int) ≤ (xs.length : Int) := by omega
  have c2 : (xs.length : Int) ≤ 5 := by omega
  simp only [F_field_fault, B_field_fault, bindR_ok, bindR_ex, a_bind, a_of_some, a_var, a_c, a_bin, a_un, a_test, a_tru, a_cmp, a_and, a_or, a_not, a_if, a_andV, a_orV, a_notV, a_bl, a_nil, a_cons, a_tup, a_lst, a_call, a_callF, a_callIO, a_seq, a_next, a_ret, a_retN, a_drop, a_break, a_cont, a_ifS, a_asg, a_asgG, a_app, a_setI, a_iter, a_rng, a_for, a_slice, a_part0, a_part1, a_lc, a_yes, l_val, l_new, l_slot, f_val, f_new, f_slot, t_val, t_new, t_slot, s_val, s_new, s_slot, a_look2, a_look1, a_fa0, a_fa1, a_la0, a_la1, a_fn1, a_fn2, a_gN, a_gs0, a_gs1, a_gT, a_turn, a_fg0, a_fg1, a_wp0, a_wp1, a_rs0, a_rs1, a_mkF, a_mkIO, a_owL, a_owD, a_tkT, a_tkF, a_apf, a_apb, a_apn, a_aps, e_addI, e_subI, e_mulI, e_divI, e_modI, e_negI, e_lt, e_le, e_gt, e_ge, e_is, e_isnot, a_lift, e_lenL, e_lenT, e_lenS, e_intI, e_intB, e_absI, e_truB, e_truI, e_truN, e_truL, e_truT, e_ixL, e_ixT, e_tupL, e_tupT, e_lstL, e_lstT, e_sum, cEq_int, cNe_int, fin_nx, fin_val, fin_new, fin_slot, fin_ex, finIO_nx, finIO_val, finIO_new, finIO_slot, finIO_ex, entry_eq, entryIO_eq, atI_0, atI_1, atI_2, atI_3, Option.map_some, List.set_cons_zero, List.set_cons_succ, List.getElem?_cons_zero, List.getElem?_cons_succ, List.getElem?_nil, List.getD_cons_zero, List.getD_cons_succ, List.map_cons, List.map_nil, List.length_cons, List.length_nil, List.length_map, List.replicate, List.cons_append, List.nil_append, Nat.reduceAdd, Nat.reduceSub, Nat.reduceLeDiff, Nat.reduceLT, Nat.zero_le, Int.reduceLT, Int.reduceLE, Int.reduceEq, Int.reduceNeg, if_true, if_false, Bool.false_eq_true, Bool.true_eq_false, reduceIte, Bool.or_true, Bool.true_or, Bool.false_or, Bool.or_false, Bool.and_true, Bool.and_false, Bool.true_and, Bool.false_and, Bool.not_true, Bool.not_false, decide_true, decide_false, decide_eq_true_eq, and_self, not_true_eq_false, not_false_eq_true, ite_self, a_try_ok, a_raise0, a_raise, a_h0, a_h1, a_en0, a_en1, a_se_nx, a_se_rt, a_lv0, a_lv1, a_un0, a_un1, a_cx0, a_cx1, a_cx2, a_cx3, a_xf, a_pad, a_walk, a_rev, a_par, a_chain, a_chainB, w_enum, w_zipL, w_zipT, e_max, e_min, e_and, e_sumA, e_sumAT, List.reverse_cons, List.reverse_nil, List.zip_cons_cons, List.zip_nil_left, List.zip_nil_right, a_mIndex, a_fld, a_callT, a_methD, a_make, a_val, a_newD, w_enumL, w_enumT, a_apT, a_apG, a_apL, e_ixG, e_tupF, a_no0, a_no1, e_sliceL, e_sliceT, a_ins, a_cat, e_revL, List.nil_append, List.reverse_nil, subE_BadField_BadField, in_xs_0_BadField, fc_modulus_Field, fc_size_Field, fc_prime_Field, fc_degree_Field, fc_digit_rows_Field, fc_sum_rows_Field, fc_product_rows_Field, fc_negatives_Field, fc_inverses_Field, fc_step_row_Field, subXs_BadField_RankError, subXs_BadField_ValueError, subXs_BadField_BadThing, tf_m_raised_Field_Field, tf_eq_Field, w, s, l, c1, c2, r, a_chainB, e_le]
theorem due_turn (p : ∀ x ∈ xs, plainI x = true) (x : D) (hx : x ∈ xs) : turn (gN 2) [2] L__law_due_1 x [.sh (.int q), .sh M, .no] = if inR 0 ((q : Int) - 1) x = true then .ok .nx [.sh (.int q), .sh M, .no] else .ok (.rt (.val (.str "modulus"))) [.sh (.int q), .sh M, .sh x] := by
  have w := lawwhole_eq (p x hx)
  cases x with
  | int i =>
    dsimp only [isI] at w
    by_cases a1 : i < 0
    · have e : inR 0 ((q : Int) - 1) (.int i) = false := by show (decide (0 ≤ i) && _) = false; rw [decide_eq_false (by omega)]; rfl
      simp only [L__law_due_1, bindR_ok, bindR_ex, a_bind, a_of_some, a_var, a_c, a_bin, a_un, a_test, a_tru, a_cmp, a_and, a_or, a_not, a_if, a_andV, a_orV, a_notV, a_bl, a_nil, a_cons, a_tup, a_lst, a_call, a_callF, a_callIO, a_seq, a_next, a_ret, a_retN, a_drop, a_break, a_cont, a_ifS, a_asg, a_asgG, a_app, a_setI, a_iter, a_rng, a_for, a_slice, a_part0, a_part1, a_lc, a_yes, l_val, l_new, l_slot, f_val, f_new, f_slot, t_val, t_new, t_slot, s_val, s_new, s_slot, a_look2, a_look1, a_fa0, a_fa1, a_la0, a_la1, a_fn1, a_fn2, a_gN, a_gs0, a_gs1, a_gT, a_turn, a_fg0, a_fg1, a_wp0, a_wp1, a_rs0, a_rs1, a_mkF, a_mkIO, a_owL, a_owD, a_tkT, a_tkF, a_apf, a_apb, a_apn, a_aps, e_addI, e_subI, e_mulI, e_divI, e_modI, e_negI, e_lt, e_le, e_gt, e_ge, e_is, e_isnot, a_lift, e_lenL, e_lenT, e_lenS, e_intI, e_intB, e_absI, e_truB, e_truI, e_truN, e_truL, e_truT, e_ixL, e_ixT, e_tupL, e_tupT, e_lstL, e_lstT, e_sum, cEq_int, cNe_int, fin_nx, fin_val, fin_new, fin_slot, fin_ex, finIO_nx, finIO_val, finIO_new, finIO_slot, finIO_ex, entry_eq, entryIO_eq, atI_0, atI_1, atI_2, atI_3, Option.map_some, List.set_cons_zero, List.set_cons_succ, List.getElem?_cons_zero, List.getElem?_cons_succ, List.getElem?_nil, List.getD_cons_zero, List.getD_cons_succ, List.map_cons, List.map_nil, List.length_cons, List.length_nil, List.length_map, List.replicate, List.cons_append, List.nil_append, Nat.reduceAdd, Nat.reduceSub, Nat.reduceLeDiff, Nat.reduceLT, Nat.zero_le, Int.reduceLT, Int.reduceLE, Int.reduceEq, Int.reduceNeg, if_true, if_false, Bool.false_eq_true, Bool.true_eq_false, reduceIte, Bool.or_true, Bool.true_or, Bool.false_or, Bool.or_false, Bool.and_true, Bool.and_false, Bool.true_and, Bool.false_and, Bool.not_true, Bool.not_false, decide_true, decide_false, decide_eq_true_eq, and_self, not_true_eq_false, not_false_eq_true, ite_self, a_try_ok, a_raise0, a_raise, a_h0, a_h1, a_en0, a_en1, a_se_nx, a_se_rt, a_lv0, a_lv1, a_un0, a_un1, a_cx0, a_cx1, a_cx2, a_cx3, a_xf, a_pad, a_walk, a_rev, a_par, a_chain, a_chainB, w_enum, w_zipL, w_zipT, e_max, e_min, e_and, e_sumA, e_sumAT, List.reverse_cons, List.reverse_nil, List.zip_cons_cons, List.zip_nil_left, List.zip_nil_right, a_mIndex, a_fld, a_callT, a_methD, a_make, a_val, a_newD, w_enumL, w_enumT, a_apT, a_apG, a_apL, e_ixG, e_tupF, a_no0, a_no1, e_sliceL, e_sliceT, a_ins, a_cat, e_revL, List.nil_append, List.reverse_nil, subE_BadField_BadField, in_xs_0_BadField, fc_modulus_Field, fc_size_Field, fc_prime_Field, fc_degree_Field, fc_digit_rows_Field, fc_sum_rows_Field, fc_product_rows_Field, fc_negatives_Field, fc_inverses_Field, fc_step_row_Field, subXs_BadField_RankError, subXs_BadField_ValueError, subXs_BadField_BadThing, tf_m_raised_Field_Field, tf_eq_Field, w, a1, e]
    · by_cases a2 : i ≥ (q : Int)
      · have e : inR 0 ((q : Int) - 1) (.int i) = false := by show (decide (0 ≤ i) && decide (i ≤ (q : Int) - 1)) = false; rw [decide_eq_false (show ¬ i ≤ (q : Int) - 1 by omega), Bool.and_false]
        simp only [L__law_due_1, bindR_ok, bindR_ex, a_bind, a_of_some, a_var, a_c, a_bin, a_un, a_test, a_tru, a_cmp, a_and, a_or, a_not, a_if, a_andV, a_orV, a_notV, a_bl, a_nil, a_cons, a_tup, a_lst, a_call, a_callF, a_callIO, a_seq, a_next, a_ret, a_retN, a_drop, a_break, a_cont, a_ifS, a_asg, a_asgG, a_app, a_setI, a_iter, a_rng, a_for, a_slice, a_part0, a_part1, a_lc, a_yes, l_val, l_new, l_slot, f_val, f_new, f_slot, t_val, t_new, t_slot, s_val, s_new, s_slot, a_look2, a_look1, a_fa0, a_fa1, a_la0, a_la1, a_fn1, a_fn2, a_gN, a_gs0, a_gs1, a_gT, a_turn, a_fg0, a_fg1, a_wp0, a_wp1, a_rs0, a_rs1, a_mkF, a_mkIO, a_owL, a_owD, a_tkT, a_tkF, a_apf, a_apb, a_apn, a_aps, e_addI, e_subI, e_mulI, e_divI, e_modI, e_negI, e_lt, e_le, e_gt, e_ge, e_is, e_isnot, a_lift, e_lenL, e_lenT, e_lenS, e_intI, e_intB, e_absI, e_truB, e_truI, e_truN, e_truL, e_truT, e_ixL, e_ixT, e_tupL, e_tupT, e_lstL, e_lstT, e_sum, cEq_int, cNe_int, fin_nx, fin_val, fin_new, fin_slot, fin_ex, finIO_nx, finIO_val, finIO_new, finIO_slot, finIO_ex, entry_eq, entryIO_eq, atI_0, atI_1, atI_2, atI_3, Option.map_some, List.set_cons_zero, List.set_cons_succ, List.getElem?_cons_zero, List.getElem?_cons_succ, List.getElem?_nil, List.getD_cons_zero, List.getD_cons_succ, List.map_cons, List.map_nil, List.length_cons, List.length_nil, List.length_map, List.replicate, List.cons_append, List.nil_append, Nat.reduceAdd, Nat.reduceSub, Nat.reduceLeDiff, Nat.reduceLT, Nat.zero_le, Int.reduceLT, Int.reduceLE, Int.reduceEq, Int.reduceNeg, if_true, if_false, Bool.false_eq_true, Bool.true_eq_false, reduceIte, Bool.or_true, Bool.true_or, Bool.false_or, Bool.or_false, Bool.and_true, Bool.and_false, Bool.true_and, Bool.false_and, Bool.not_true, Bool.not_false, decide_true, decide_false, decide_eq_true_eq, and_self, not_true_eq_false, not_false_eq_true, ite_self, a_try_ok, a_raise0, a_raise, a_h0, a_h1, a_en0, a_en1, a_se_nx, a_se_rt, a_lv0, a_lv1, a_un0, a_un1, a_cx0, a_cx1, a_cx2, a_cx3, a_xf, a_pad, a_walk, a_rev, a_par, a_chain, a_chainB, w_enum, w_zipL, w_zipT, e_max, e_min, e_and, e_sumA, e_sumAT, List.reverse_cons, List.reverse_nil, List.zip_cons_cons, List.zip_nil_left, List.zip_nil_right, a_mIndex, a_fld, a_callT, a_methD, a_make, a_val, a_newD, w_enumL, w_enumT, a_apT, a_apG, a_apL, e_ixG, e_tupF, a_no0, a_no1, e_sliceL, e_sliceT, a_ins, a_cat, e_revL, List.nil_append, List.reverse_nil, subE_BadField_BadField, in_xs_0_BadField, fc_modulus_Field, fc_size_Field, fc_prime_Field, fc_degree_Field, fc_digit_rows_Field, fc_sum_rows_Field, fc_product_rows_Field, fc_negatives_Field, fc_inverses_Field, fc_step_row_Field, subXs_BadField_RankError, subXs_BadField_ValueError, subXs_BadField_BadThing, tf_m_raised_Field_Field, tf_eq_Field, w, a1, a2, e]
      · have e : inR 0 ((q : Int) - 1) (.int i) = true := by show (decide (0 ≤ i) && decide (i ≤ (q : Int) - 1)) = true; rw [decide_eq_true (show i ≤ (q : Int) - 1 by omega), decide_eq_true (show 0 ≤ i by omega)]; rfl
        simp only [L__law_due_1, bindR_ok, bindR_ex, a_bind, a_of_some, a_var, a_c, a_bin, a_un, a_test, a_tru, a_cmp, a_and, a_or, a_not, a_if, a_andV, a_orV, a_notV, a_bl, a_nil, a_cons, a_tup, a_lst, a_call, a_callF, a_callIO, a_seq, a_next, a_ret, a_retN, a_drop, a_break, a_cont, a_ifS, a_asg, a_asgG, a_app, a_setI, a_iter, a_rng, a_for, a_slice, a_part0, a_part1, a_lc, a_yes, l_val, l_new, l_slot, f_val, f_new, f_slot, t_val, t_new, t_slot, s_val, s_new, s_slot, a_look2, a_look1, a_fa0, a_fa1, a_la0, a_la1, a_fn1, a_fn2, a_gN, a_gs0, a_gs1, a_gT, a_turn, a_fg0, a_fg1, a_wp0, a_wp1, a_rs0, a_rs1, a_mkF, a_mkIO, a_owL, a_owD, a_tkT, a_tkF, a_apf, a_apb, a_apn, a_aps, e_addI, e_subI, e_mulI, e_divI, e_modI, e_negI, e_lt, e_le, e_gt, e_ge, e_is, e_isnot, a_lift, e_lenL, e_lenT, e_lenS, e_intI, e_intB, e_absI, e_truB, e_truI, e_truN, e_truL, e_truT, e_ixL, e_ixT, e_tupL, e_tupT, e_lstL, e_lstT, e_sum, cEq_int, cNe_int, fin_nx, fin_val, fin_new, fin_slot, fin_ex, finIO_nx, finIO_val, finIO_new, finIO_slot, finIO_ex, entry_eq, entryIO_eq, atI_0, atI_1, atI_2, atI_3, Option.map_some, List.set_cons_zero, List.set_cons_succ, List.getElem?_cons_zero, List.getElem?_cons_succ, List.getElem?_nil, List.getD_cons_zero, List.getD_cons_succ, List.map_cons, List.map_nil, List.length_cons, List.length_nil, List.length_map, List.replicate, List.cons_append, List.nil_append, Nat.reduceAdd, Nat.reduceSub, Nat.reduceLeDiff, Nat.reduceLT, Nat.zero_le, Int.reduceLT, Int.reduceLE, Int.reduceEq, Int.reduceNeg, if_true, if_false, Bool.false_eq_true, Bool.true_eq_false, reduceIte, Bool.or_true, Bool.true_or, Bool.false_or, Bool.or_false, Bool.and_true, Bool.and_false, Bool.true_and, Bool.false_and, Bool.not_true, Bool.not_false, decide_true, decide_false, decide_eq_true_eq, and_self, not_true_eq_false, not_false_eq_true, ite_self, a_try_ok, a_raise0, a_raise, a_h0, a_h1, a_en0, a_en1, a_se_nx, a_se_rt, a_lv0, a_lv1, a_un0, a_un1, a_cx0, a_cx1, a_cx2, a_cx3, a_xf, a_pad, a_walk, a_rev, a_par, a_chain, a_chainB, w_enum, w_zipL, w_zipT, e_max, e_min, e_and, e_sumA, e_sumAT, List.reverse_cons, List.reverse_nil, List.zip_cons_cons, List.zip_nil_left, List.zip_nil_right, a_mIndex, a_fld, a_callT, a_methD, a_make, a_val, a_newD, w_enumL, w_enumT, a_apT, a_apG, a_apL, e_ixG, e_tupF, a_no0, a_no1, e_sliceL, e_sliceT, a_ins, a_cat, e_revL, List.nil_append, List.reverse_nil, subE_BadField_BadField, in_xs_0_BadField, fc_modulus_Field, fc_size_Field, fc_prime_Field, fc_degree_Field, fc_digit_rows_Field, fc_sum_rows_Field, fc_product_rows_Field, fc_negatives_Field, fc_inverses_Field, fc_step_row_Field, subXs_BadField_RankError, subXs_BadField_ValueError, subXs_BadField_BadThing, tf_m_raised_Field_Field, tf_eq_Field, w, a1, a2, e]
  | _ => first
    | (have z := p _ hx; cases z; done)
    | (dsimp only [isI] at w; simp only [L__law_due_1, bindR_ok, bindR_ex, a_bind, a_of_some, a_var, a_c, a_bin, a_un, a_test, a_tru, a_cmp, a_and, a_or, a_not, a_if, a_andV, a_orV, a_notV, a_bl, a_nil, a_cons, a_tup, a_lst, a_call, a_callF, a_callIO, a_seq, a_next, a_ret, a_retN, a_drop, a_break, a_cont, a_ifS, a_asg, a_asgG, a_app, a_setI, a_iter, a_rng, a_for, a_slice, a_part0, a_part1, a_lc, a_yes, l_val, l_new, l_slot, f_val, f_new, f_slot, t_val, t_new, t_slot, s_val, s_new, s_slot, a_look2, a_look1, a_fa0, a_fa1, a_la0, a_la1, a_fn1, a_fn2, a_gN, a_gs0, a_gs1, a_gT, a_turn, a_fg0, a_fg1, a_wp0, a_wp1, a_rs0, a_rs1, a_mkF, a_mkIO, a_owL, a_owD, a_tkT, a_tkF, a_apf, a_apb, a_apn, a_aps, e_addI, e_subI, e_mulI, e_divI, e_modI, e_negI, e_lt, e_le, e_gt, e_ge, e_is, e_isnot, a_lift, e_lenL, e_lenT, e_lenS, e_intI, e_intB, e_absI, e_truB, e_truI, e_truN, e_truL, e_truT, e_ixL, e_ixT, e_tupL, e_tupT, e_lstL, e_lstT, e_sum, cEq_int, cNe_int, fin_nx, fin_val, fin_new, fin_slot, fin_ex, finIO_nx, finIO_val, finIO_new, finIO_slot, finIO_ex, entry_eq, entryIO_eq, atI_0, atI_1, atI_2, atI_3, Option.map_some, List.set_cons_zero, List.set_cons_succ, List.getElem?_cons_zero, List.getElem?_cons_succ, List.getElem?_nil, List.getD_cons_zero, List.getD_cons_succ, List.map_cons, List.map_nil, List.length_cons, List.length_nil, List.length_map, List.replicate, List.cons_append, List.nil_append, Nat.reduceAdd, Nat.reduceSub, Nat.reduceLeDiff, Nat.reduceLT, Nat.zero_le, Int.reduceLT, Int.reduceLE, Int.reduceEq, Int.reduceNeg, if_true, if_false, Bool.false_eq_true, Bool.true_eq_false, reduceIte, Bool.or_true, Bool.true_or, Bool.false_or, Bool.or_false, Bool.and_true, Bool.and_false, Bool.true_and, Bool.false_and, Bool.not_true, Bool.not_false, decide_true, decide_false, decide_eq_true_eq, and_self, not_true_eq_false, not_false_eq_true, ite_self, a_try_ok, a_raise0, a_raise, a_h0, a_h1, a_en0, a_en1, a_se_nx, a_se_rt, a_lv0, a_lv1, a_un0, a_un1, a_cx0, a_cx1, a_cx2, a_cx3, a_xf, a_pad, a_walk, a_rev, a_par, a_chain, a_chainB, w_enum, w_zipL, w_zipT, e_max, e_min, e_and, e_sumA, e_sumAT, List.reverse_cons, List.reverse_nil, List.zip_cons_cons, List.zip_nil_left, List.zip_nil_right, a_mIndex, a_fld, a_callT, a_methD, a_make, a_val, a_newD, w_enumL, w_enumT, a_apT, a_apG, a_apL, e_ixG, e_tupF, a_no0, a_no1, e_sliceL, e_sliceT, a_ins, a_cat, e_revL, List.nil_append, List.reverse_nil, subE_BadField_BadField, in_xs_0_BadField, fc_modulus_Field, fc_size_Field, fc_prime_Field, fc_degree_Field, fc_digit_rows_Field, fc_sum_rows_Field, fc_product_rows_Field, fc_negatives_Field, fc_inverses_Field, fc_step_row_Field, subXs_BadField_RankError, subXs_BadField_ValueError, subXs_BadField_BadThing, tf_m_raised_Field_Field, tf_eq_Field, w, inR])
theorem due_loop (p : ∀ x ∈ xs, plainI x = true) : (xs.all (inR 0 ((q : Int) - 1)) = true → mLoop (gN 2) [2] L__law_due_1 xs [.sh (.int q), .sh M, .no] = .ok .nx [.sh (.int q), .sh M, .no]) ∧
    (xs.all (inR 0 ((q : Int) - 1)) = false → ∃ x, mLoop (gN 2) [2] L__law_due_1 xs [.sh (.int q), .sh M, .no] = .ok (.rt (.val (.str "modulus"))) [.sh (.int q), .sh M, .sh x]) := by
  have L := loop_find (g := gN 2) (junk := [2]) (body := L__law_due_1) [.sh (.int q), .sh M, .no] (fun x : D => x) (fun x => !inR 0 ((q : Int) - 1) x) (fun _ => .rt (.val (.str "modulus"))) (fun x => [.sh (.int q), .sh M, .sh x]) xs
    (fun x hx h => by
      have := due_turn (q := q) (M := M) p x hx
      rw [this, if_pos (by simpa using h)])
    (fun x hx h => by
      have := due_turn (q := q) (M := M) p x hx
      rw [this, if_neg (by simpa using h)])
    (fun x => ⟨(by intro z; cases z), (by intro z; cases z)⟩)
  rw [List.map_id'] at L
  refine ⟨fun h => ?_, fun h => ?_⟩
  · have : xs.find? (fun x => !inR 0 ((q : Int) - 1) x) = none := by
      rw [List.find?_eq_none]
      intro x hx
      have := List.all_eq_true.mp h x hx
      rw [this]; decide
    rw [L, this]
  · cases z : xs.find? (fun x => !inR 0 ((q : Int) - 1) x) with
    | some x => rw [z] at L; exact ⟨x, L⟩
    | none =>
      rw [List.find?_eq_none] at z
      have : xs.all (inR 0 ((q : Int) - 1)) = true := by
        rw [List.all_eq_true]
        intro x hx
        have := z x hx
        simpa using this
      rw [this] at h; cases h
theorem due_digit (h : q = 2 ∨ q = 3) (z : SeqD M xs) (c1 : 2 ≤ xs.length) (c2 : xs.length ≤ 5) (p : ∀ x ∈ xs, plainI x = true) (c : xs.all (inR 0 ((q : Int) - 1)) = false) : F__law_due [.int q, M] = .ok false (.str "modulus") .non := by
  have w := lawwhole_eq (d := .int (q : Int)) rfl
  dsimp only [isI] at w
  have n := q_in h
  have s := z_isi z
  have l := z.len
  obtain ⟨x, L⟩ := (due_loop (q := q) (M := M) p).2 c
  have c1 : ¬ (xs.length : Int) < 2 := by omega
  have c2 : ¬ (xs.length : Int) > 5 := by omega
  rcases z with rfl | rfl <;> simp only [F__law_due, B__law_due, bindR_ok, bindR_ex, a_bind, a_of_some, a_var, a_c, a_bin, a_un, a_test, a_tru, a_cmp, a_and, a_or, a_not, a_if, a_andV, a_orV, a_notV, a_bl, a_nil, a_cons, a_tup, a_lst, a_call, a_callF, a_callIO, a_seq, a_next, a_ret, a_retN, a_drop, a_break, a_cont, a_ifS, a_asg, a_asgG, a_app, a_setI, a_iter, a_rng, a_for, a_slice, a_part0, a_part1, a_lc, a_yes, l_val, l_new, l_slot, f_val, f_new, f_slot, t_val, t_new, t_slot, s_val, s_new, s_slot, a_look2, a_look1, a_fa0, a_fa1, a_la0, a_la1, a_fn1, a_fn2, a_gN, a_gs0, a_gs1, a_gT, a_turn, a_fg0, a_fg1, a_wp0, a_wp1, a_rs0, a_rs1, a_mkF, a_mkIO, a_owL, a_owD, a_tkT, a_tkF, a_apf, a_apb, a_apn, a_aps, e_addI, e_subI, e_mulI, e_divI, e_modI, e_negI, e_lt, e_le, e_gt, e_ge, e_is, e_isnot, a_lift, e_lenL, e_lenT, e_lenS, e_intI, e_intB, e_absI, e_truB, e_truI, e_truN, e_truL, e_truT, e_ixL, e_ixT, e_tupL, e_tupT, e_lstL, e_lstT, e_sum, cEq_int, cNe_int, fin_nx, fin_val, fin_new, fin_slot, fin_ex, finIO_nx, finIO_val, finIO_new, finIO_slot, finIO_ex, entry_eq, entryIO_eq, atI_0, atI_1, atI_2, atI_3, Option.map_some, List.set_cons_zero, List.set_cons_succ, List.getElem?_cons_zero, List.getElem?_cons_succ, List.getElem?_nil, List.getD_cons_zero, List.getD_cons_succ, List.map_cons, List.map_nil, List.length_cons, List.length_nil, List.length_map, List.replicate, List.cons_append, List.nil_append, Nat.reduceAdd, Nat.reduceSub, Nat.reduceLeDiff, Nat.reduceLT, Nat.zero_le, Int.reduceLT, Int.reduceLE, Int.reduceEq, Int.reduceNeg, if_true, if_false, Bool.false_eq_true, Bool.true_eq_false, reduceIte, Bool.or_true, Bool.true_or, Bool.false_or, Bool.or_false, Bool.and_true, Bool.and_false, Bool.true_and, Bool.false_and, Bool.not_true, Bool.not_false, decide_true, decide_false, decide_eq_true_eq, and_self, not_true_eq_false, not_false_eq_true, ite_self, a_try_ok, a_raise0, a_raise, a_h0, a_h1, a_en0, a_en1, a_se_nx, a_se_rt, a_lv0, a_lv1, a_un0, a_un1, a_cx0, a_cx1, a_cx2, a_cx3, a_xf, a_pad, a_walk, a_rev, a_par, a_chain, a_chainB, w_enum, w_zipL, w_zipT, e_max, e_min, e_and, e_sumA, e_sumAT, List.reverse_cons, List.reverse_nil, List.zip_cons_cons, List.zip_nil_left, List.zip_nil_right, a_mIndex, a_fld, a_callT, a_methD, a_make, a_val, a_newD, w_enumL, w_enumT, a_apT, a_apG, a_apL, e_ixG, e_tupF, a_no0, a_no1, e_sliceL, e_sliceT, a_ins, a_cat, e_revL, List.nil_append, List.reverse_nil, subE_BadField_BadField, in_xs_0_BadField, fc_modulus_Field, fc_size_Field, fc_prime_Field, fc_degree_Field, fc_digit_rows_Field, fc_sum_rows_Field, fc_product_rows_Field, fc_negatives_Field, fc_inverses_Field, fc_step_row_Field, subXs_BadField_RankError, subXs_BadField_ValueError, subXs_BadField_BadThing, tf_m_raised_Field_Field, tf_eq_Field, w, n, s, c1, c2, L]
theorem nums_inR {md : List Nat} (hd : ∀ d ∈ md, d < q) : (nums md).all (inR 0 ((q : Int) - 1)) = true := by
  unfold nums
  rw [List.all_map, List.all_eq_true]
  intro d hm
  have := hd d hm
  show (decide ((0 : Int) ≤ (d : Int)) && decide ((d : Int) ≤ (q : Int) - 1)) = true
  rw [decide_eq_true (by omega), decide_eq_true (by omega)]; rfl
theorem nums_pl {md : List Nat} : ∀ x ∈ nums md, plainI x = true := by
  intro x hx
  obtain ⟨d, _, rfl⟩ := List.mem_map.mp hx
  rfl
theorem last_at {md : List Nat} {k : Nat} (h : md.getLast? = some k) : atI (nums md) (-1) = some (.int (k : Int)) := by
  cases hh : md.length with
  | zero => rw [List.length_eq_zero_iff.mp hh] at h; cases h
  | succ n =>
    have e : atI (nums md) (-1) = (nums md)[n]? := by
      unfold atI ixN
      rw [nums_len, hh, if_neg (by decide), if_pos (by omega), show ((-1 : Int) + ((n + 1 : Nat) : Int)).toNat = n by omega]
      rfl
    rw [List.getLast?_eq_getElem?, hh, Nat.add_sub_cancel] at h
    rw [e]
    unfold nums
    rw [List.getElem?_map, h]; rfl
section
variable {md : List Nat} {k : Nat}
theorem fault_last (h : q = 2 ∨ q = 3) (z : SeqD M (nums md)) (c1 : 2 ≤ md.length) (c2 : md.length ≤ 5) (hd : ∀ d ∈ md, d < q) (hk : md.getLast? = some k) (k1 : k ≠ 1) : F_field_fault [.int q, M] = .ok false (.str "modulus") .non := by
  have w := q_whole h
  have s := z.seq
  have l := z.len
  have r := row_eq (q := q) (w := (nums md).length) z (by rw [nums_len]; exact Nat.le_trans c2 (by decide)) nums_pl
  rw [nums_inR hd, decide_eq_true rfl, Bool.and_true] at r
  have x := last_at hk
  have i := z.ix (i := -1)
  rw [x] at i
  have c1 : (2 : Int) ≤ ((nums md).length : Int) := by rw [nums_len]; omega
  have c2 : ((nums md).length : Int) ≤ 5 := by rw [nums_len]; omega
  have k2 : ¬ (k : Int) = 1 := by omega
  simp only [F_field_fault, B_field_fault, bindR_ok, bindR_ex, a_bind, a_of_some, a_var, a_c, a_bin, a_un, a_test, a_tru, a_cmp, a_and, a_or, a_not, a_if, a_andV, a_orV, a_notV, a_bl, a_nil, a_cons, a_tup, a_lst, a_call, a_callF, a_callIO, a_seq, a_next, a_ret, a_retN, a_drop, a_break, a_cont, a_ifS, a_asg, a_asgG, a_app, a_setI, a_iter, a_rng, a_for, a_slice, a_part0, a_part1, a_lc, a_yes, l_val, l_new, l_slot, f_val, f_new, f_slot, t_val, t_new, t_slot, s_val, s_new, s_slot, a_look2, a_look1, a_fa0, a_fa1, a_la0, a_la1, a_fn1, a_fn2, a_gN, a_gs0, a_gs1, a_gT, a_turn, a_fg0, a_fg1, a_wp0, a_wp1, a_rs0, a_rs1, a_mkF, a_mkIO, a_owL, a_owD, a_tkT, a_tkF, a_apf, a_apb, a_apn, a_aps, e_addI, e_subI, e_mulI, e_divI, e_modI, e_negI, e_lt, e_le, e_gt, e_ge, e_is, e_isnot, a_lift, e_lenL, e_lenT, e_lenS, e_intI, e_intB, e_absI, e_truB, e_truI, e_truN, e_truL, e_truT, e_ixL, e_ixT, e_tupL, e_tupT, e_lstL, e_lstT, e_sum, cEq_int, cNe_int, fin_nx, fin_val, fin_new, fin_slot, fin_ex, finIO_nx, finIO_val, finIO_new, finIO_slot, finIO_ex, entry_eq, entryIO_eq, atI_0, atI_1, atI_2, atI_3, Option.map_some, List.set_cons_zero, List.set_cons_succ, List.getElem?_cons_zero, List.getElem?_cons_succ, List.getElem?_nil, List.getD_cons_zero, List.getD_cons_succ, List.map_cons, List.map_nil, List.length_cons, List.length_nil, List.length_map, List.replicate, List.cons_append, List.nil_append, Nat.reduceAdd, Nat.reduceSub, Nat.reduceLeDiff, Nat.reduceLT, Nat.zero_le, Int.reduceLT, Int.reduceLE, Int.reduceEq, Int.reduceNeg, if_true, if_false, Bool.false_eq_true, Bool.true_eq_false, reduceIte, Bool.or_true, Bool.true_or, Bool.false_or, Bool.or_false, Bool.and_true, Bool.and_false, Bool.true_and, Bool.false_and, Bool.not_true, Bool.not_false, decide_true, decide_false, decide_eq_true_eq, and_self, not_true_eq_false, not_false_eq_true, ite_self, a_try_ok, a_raise0, a_raise, a_h0, a_h1, a_en0, a_en1, a_se_nx, a_se_rt, a_lv0, a_lv1, a_un0, a_un1, a_cx0, a_cx1, a_cx2, a_cx3, a_xf, a_pad, a_walk, a_rev, a_par, a_chain, a_chainB, w_enum, w_zipL, w_zipT, e_max, e_min, e_and, e_sumA, e_sumAT, List.reverse_cons, List.reverse_nil, List.zip_cons_cons, List.zip_nil_left, List.zip_nil_right, a_mIndex, a_fld, a_callT, a_methD, a_make, a_val, a_newD, w_enumL, w_enumT, a_apT, a_apG, a_apL, e_ixG, e_tupF, a_no0, a_no1, e_sliceL, e_sliceT, a_ins, a_cat, e_revL, List.nil_append, List.reverse_nil, subE_BadField_BadField, in_xs_0_BadField, fc_modulus_Field, fc_size_Field, fc_prime_Field, fc_degree_Field, fc_digit_rows_Field, fc_sum_rows_Field, fc_product_rows_Field, fc_negatives_Field, fc_inverses_Field, fc_step_row_Field, subXs_BadField_RankError, subXs_BadField_ValueError, subXs_BadField_BadThing, tf_m_raised_Field_Field, tf_eq_Field, w, s, l, c1, c2, r, a_chainB, e_le, i, k2]
theorem due_last (h : q = 2 ∨ q = 3) (z : SeqD M (nums md)) (c1 : 2 ≤ md.length) (c2 : md.length ≤ 5) (hd : ∀ d ∈ md, d < q) (hk : md.getLast? = some k) (k1 : k ≠ 1) : F__law_due [.int q, M] = .ok false (.str "modulus") .non := by
  have w := lawwhole_eq (d := .int (q : Int)) rfl
  dsimp only [isI] at w
  have n := q_in h
  have s := z_isi z
  have L := (due_loop (q := q) (M := M) (nums_pl (md := md))).1 (nums_inR hd)
  have x := last_at hk
  have c1 : ¬ ((nums md).length : Int) < 2 := by rw [nums_len]; omega
  have c2 : ¬ ((nums md).length : Int) > 5 := by rw [nums_len]; omega
  have k2 : ¬ (k : Int) = 1 := by omega
  rcases z with rfl | rfl <;> simp only [F__law_due, B__law_due, bindR_ok, bindR_ex, a_bind, a_of_some, a_var, a_c, a_bin, a_un, a_test, a_tru, a_cmp, a_and, a_or, a_not, a_if, a_andV, a_orV, a_notV, a_bl, a_nil, a_cons, a_tup, a_lst, a_call, a_callF, a_callIO, a_seq, a_next, a_ret, a_retN, a_drop, a_break, a_cont, a_ifS, a_asg, a_asgG, a_app, a_setI, a_iter, a_rng, a_for, a_slice, a_part0, a_part1, a_lc, a_yes, l_val, l_new, l_slot, f_val, f_new, f_slot, t_val, t_new, t_slot, s_val, s_new, s_slot, a_look2, a_look1, a_fa0, a_fa1, a_la0, a_la1, a_fn1, a_fn2, a_gN, a_gs0, a_gs1, a_gT, a_turn, a_fg0, a_fg1, a_wp0, a_wp1, a_rs0, a_rs1, a_mkF, a_mkIO, a_owL, a_owD, a_tkT, a_tkF, a_apf, a_apb, a_apn, a_aps, e_addI, e_subI, e_mulI, e_divI, e_modI, e_negI, e_lt, e_le, e_gt, e_ge, e_is, e_isnot, a_lift, e_lenL, e_lenT, e_lenS, e_intI, e_intB, e_absI, e_truB, e_truI, e_truN, e_truL, e_truT, e_ixL, e_ixT, e_tupL, e_tupT, e_lstL, e_lstT, e_sum, cEq_int, cNe_int, fin_nx, fin_val, fin_new, fin_slot, fin_ex, finIO_nx, finIO_val, finIO_new, finIO_slot, finIO_ex, entry_eq, entryIO_eq, atI_0, atI_1, atI_2, atI_3, Option.map_some, List.set_cons_zero, List.set_cons_succ, List.getElem?_cons_zero, List.getElem?_cons_succ, List.getElem?_nil, List.getD_cons_zero, List.getD_cons_succ, List.map_cons, List.map_nil, List.length_cons, List.length_nil, List.length_map, List.replicate, List.cons_append, List.nil_append, Nat.reduceAdd, Nat.reduceSub, Nat.reduceLeDiff, Nat.reduceLT, Nat.zero_le, Int.reduceLT, Int.reduceLE, Int.reduceEq, Int.reduceNeg, if_true, if_false, Bool.false_eq_true, Bool.true_eq_false, reduceIte, Bool.or_true, Bool.true_or, Bool.false_or, Bool.or_false, Bool.and_true, Bool.and_false, Bool.true_and, Bool.false_and, Bool.not_true, Bool.not_false, decide_true, decide_false, decide_eq_true_eq, and_self, not_true_eq_false, not_false_eq_true, ite_self, a_try_ok, a_raise0, a_raise, a_h0, a_h1, a_en0, a_en1, a_se_nx, a_se_rt, a_lv0, a_lv1, a_un0, a_un1, a_cx0, a_cx1, a_cx2, a_cx3, a_xf, a_pad, a_walk, a_rev, a_par, a_chain, a_chainB, w_enum, w_zipL, w_zipT, e_max, e_min, e_and, e_sumA, e_sumAT, List.reverse_cons, List.reverse_nil, List.zip_cons_cons, List.zip_nil_left, List.zip_nil_right, a_mIndex, a_fld, a_callT, a_methD, a_make, a_val, a_newD, w_enumL, w_enumT, a_apT, a_apG, a_apL, e_ixG, e_tupF, a_no0, a_no1, e_sliceL, e_sliceT, a_ins, a_cat, e_revL, List.nil_append, List.reverse_nil, subE_BadField_BadField, in_xs_0_BadField, fc_modulus_Field, fc_size_Field, fc_prime_Field, fc_degree_Field, fc_digit_rows_Field, fc_sum_rows_Field, fc_product_rows_Field, fc_negatives_Field, fc_inverses_Field, fc_step_row_Field, subXs_BadField_RankError, subXs_BadField_ValueError, subXs_BadField_BadThing, tf_m_raised_Field_Field, tf_eq_Field, w, n, s, c1, c2, L, x, k2]
theorem fault_size (z : SeqD M (nums md)) (c1 : md.length = 5) (hd : ∀ d ∈ md, d < 3) (hk : md.getLast? = some 1) : F_field_fault [.int 3, M] = .ok false (.str "size") .non := by
  have w := q_whole (q := 3) (.inr rfl)
  have s := z.seq
  have l := z.len
  have r := row_eq (q := 3) (w := (nums md).length) z (by rw [nums_len, c1]; decide) nums_pl
  rw [show ((3 : Int) - 1) = (((3 : Nat) : Int) - 1) from rfl, nums_inR hd, decide_eq_true rfl, Bool.and_true] at r
  have i := z.ix (i := -1)
  rw [last_at hk] at i
  have pw := power_eq (q := 3) (m := 4) (.inr rfl) (by decide) (by decide)
  have e : ((nums md).length : Int) = 5 := by rw [nums_len, c1]; rfl
  rw [e] at r l
  have pw : F_power_of [.int 3, .int (5 - 1)] = .ok false (.int 81) .non := pw
  have w : F_is_whole [.int 3, .int 2, .int 3] = .ok false (.bl true) .non := w
  have t1 : ((2 : Int) ≤ 5) = True := by decide
  have t2 : ((5 : Int) ≤ 5) = True := by decide
  have t3 : ((81 : Int) > 27) = True := by decide
  simp only [F_field_fault, B_field_fault, bindR_ok, bindR_ex, a_bind, a_of_some, a_var, a_c, a_bin, a_un, a_test, a_tru, a_cmp, a_and, a_or, a_not, a_if, a_andV, a_orV, a_notV, a_bl, a_nil, a_cons, a_tup, a_lst, a_call, a_callF, a_callIO, a_seq, a_next, a_ret, a_retN, a_drop, a_break, a_cont, a_ifS, a_asg, a_asgG, a_app, a_setI, a_iter, a_rng, a_for, a_slice, a_part0, a_part1, a_lc, a_yes, l_val, l_new, l_slot, f_val, f_new, f_slot, t_val, t_new, t_slot, s_val, s_new, s_slot, a_look2, a_look1, a_fa0, a_fa1, a_la0, a_la1, a_fn1, a_fn2, a_gN, a_gs0, a_gs1, a_gT, a_turn, a_fg0, a_fg1, a_wp0, a_wp1, a_rs0, a_rs1, a_mkF, a_mkIO, a_owL, a_owD, a_tkT, a_tkF, a_apf, a_apb, a_apn, a_aps, e_addI, e_subI, e_mulI, e_divI, e_modI, e_negI, e_lt, e_le, e_gt, e_ge, e_is, e_isnot, a_lift, e_lenL, e_lenT, e_lenS, e_intI, e_intB, e_absI, e_truB, e_truI, e_truN, e_truL, e_truT, e_ixL, e_ixT, e_tupL, e_tupT, e_lstL, e_lstT, e_sum, cEq_int, cNe_int, fin_nx, fin_val, fin_new, fin_slot, fin_ex, finIO_nx, finIO_val, finIO_new, finIO_slot, finIO_ex, entry_eq, entryIO_eq, atI_0, atI_1, atI_2, atI_3, Option.map_some, List.set_cons_zero, List.set_cons_succ, List.getElem?_cons_zero, List.getElem?_cons_succ, List.getElem?_nil, List.getD_cons_zero, List.getD_cons_succ, List.map_cons, List.map_nil, List.length_cons, List.length_nil, List.length_map, List.replicate, List.cons_append, List.nil_append, Nat.reduceAdd, Nat.reduceSub, Nat.reduceLeDiff, Nat.reduceLT, Nat.zero_le, Int.reduceLT, Int.reduceLE, Int.reduceEq, Int.reduceNeg, if_true, if_false, Bool.false_eq_true, Bool.true_eq_false, reduceIte, Bool.or_true, Bool.true_or, Bool.false_or, Bool.or_false, Bool.and_true, Bool.and_false, Bool.true_and, Bool.false_and, Bool.not_true, Bool.not_false, decide_true, decide_false, decide_eq_true_eq, and_self, not_true_eq_false, not_false_eq_true, ite_self, a_try_ok, a_raise0, a_raise, a_h0, a_h1, a_en0, a_en1, a_se_nx, a_se_rt, a_lv0, a_lv1, a_un0, a_un1, a_cx0, a_cx1, a_cx2, a_cx3, a_xf, a_pad, a_walk, a_rev, a_par, a_chain, a_chainB, w_enum, w_zipL, w_zipT, e_max, e_min, e_and, e_sumA, e_sumAT, List.reverse_cons, List.reverse_nil, List.zip_cons_cons, List.zip_nil_left, List.zip_nil_right, a_mIndex, a_fld, a_callT, a_methD, a_make, a_val, a_newD, w_enumL, w_enumT, a_apT, a_apG, a_apL, e_ixG, e_tupF, a_no0, a_no1, e_sliceL, e_sliceT, a_ins, a_cat, e_revL, List.nil_append, List.reverse_nil, subE_BadField_BadField, in_xs_0_BadField, fc_modulus_Field, fc_size_Field, fc_prime_Field, fc_degree_Field, fc_digit_rows_Field, fc_sum_rows_Field, fc_product_rows_Field, fc_negatives_Field, fc_inverses_Field, fc_step_row_Field, subXs_BadField_RankError, subXs_BadField_ValueError, subXs_BadField_BadThing, tf_m_raised_Field_Field, tf_eq_Field, w, s, l, r, a_chainB, e_le, i, pw, t1, t2, t3, show ((1 : Nat) : Int) = 1 from rfl]
theorem due_size (z : SeqD M (nums md)) (c1 : md.length = 5) (hd : ∀ d ∈ md, d < 3) (hk : md.getLast? = some 1) : F__law_due [.int 3, M] = .ok false (.str "size") .non := by
  have w : F__law_whole [.int 3] = .ok false (.bl true) .non := lawwhole_eq (d := .int 3) rfl
  have n : cNotIn (.int 3) (.tup [.int 2, .int 3]) = some false := q_in (q := 3) (.inr rfl)
  have s := z_isi z
  have L := (due_loop (q := 3) (M := M) (nums_pl (md := md))).1 (nums_inR hd)
  have L : mLoop (gN 2) [2] L__law_due_1 (nums md) [.sh (.int 3), .sh M, .no] = .ok .nx [.sh (.int 3), .sh M, .no] := L
  have x := last_at hk
  have e : ((nums md).length : Int) = 5 := by rw [nums_len, c1]; rfl
  have t1 : ((5 : Int) < 2) = False := by decide
  have t2 : ((5 : Int) > 5) = False := by decide
  have t3 : ((5 : Int) = 5) = True := by decide
  have t4 : ((3 : Int) = 3) = True := by decide
  rcases z with rfl | rfl <;> simp only [F__law_due, B__law_due, bindR_ok, bindR_ex, a_bind, a_of_some, a_var, a_c, a_bin, a_un, a_test, a_tru, a_cmp, a_and, a_or, a_not, a_if, a_andV, a_orV, a_notV, a_bl, a_nil, a_cons, a_tup, a_lst, a_call, a_callF, a_callIO, a_seq, a_next, a_ret, a_retN, a_drop, a_break, a_cont, a_ifS, a_asg, a_asgG, a_app, a_setI, a_iter, a_rng, a_for, a_slice, a_part0, a_part1, a_lc, a_yes, l_val, l_new, l_slot, f_val, f_new, f_slot, t_val, t_new, t_slot, s_val, s_new, s_slot, a_look2, a_look1, a_fa0, a_fa1, a_la0, a_la1, a_fn1, a_fn2, a_gN, a_gs0, a_gs1, a_gT, a_turn, a_fg0, a_fg1, a_wp0, a_wp1, a_rs0, a_rs1, a_mkF, a_mkIO, a_owL, a_owD, a_tkT, a_tkF, a_apf, a_apb, a_apn, a_aps, e_addI, e_subI, e_mulI, e_divI, e_modI, e_negI, e_lt, e_le, e_gt, e_ge, e_is, e_isnot, a_lift, e_lenL, e_lenT, e_lenS, e_intI, e_intB, e_absI, e_truB, e_truI, e_truN, e_truL, e_truT, e_ixL, e_ixT, e_tupL, e_tupT, e_lstL, e_lstT, e_sum, cEq_int, cNe_int, fin_nx, fin_val, fin_new, fin_slot, fin_ex, finIO_nx, finIO_val, finIO_new, finIO_slot, finIO_ex, entry_eq, entryIO_eq, atI_0, atI_1, atI_2, atI_3, Option.map_some, List.set_cons_zero, List.set_cons_succ, List.getElem?_cons_zero, List.getElem?_cons_succ, List.getElem?_nil, List.getD_cons_zero, List.getD_cons_succ, List.map_cons, List.map_nil, List.length_cons, List.length_nil, List.length_map, List.replicate, List.cons_append, List.nil_append, Nat.reduceAdd, Nat.reduceSub, Nat.reduceLeDiff, Nat.reduceLT, Nat.zero_le, Int.reduceLT, Int.reduceLE, Int.reduceEq, Int.reduceNeg, if_true, if_false, Bool.false_eq_true, Bool.true_eq_false, reduceIte, Bool.or_true, Bool.true_or, Bool.false_or, Bool.or_false, Bool.and_true, Bool.and_false, Bool.true_and, Bool.false_and, Bool.not_true, Bool.not_false, decide_true, decide_false, decide_eq_true_eq, and_self, not_true_eq_false, not_false_eq_true, ite_self, a_try_ok, a_raise0, a_raise, a_h0, a_h1, a_en0, a_en1, a_se_nx, a_se_rt, a_lv0, a_lv1, a_un0, a_un1, a_cx0, a_cx1, a_cx2, a_cx3, a_xf, a_pad, a_walk, a_rev, a_par, a_chain, a_chainB, w_enum, w_zipL, w_zipT, e_max, e_min, e_and, e_sumA, e_sumAT, List.reverse_cons, List.reverse_nil, List.zip_cons_cons, List.zip_nil_left, List.zip_nil_right, a_mIndex, a_fld, a_callT, a_methD, a_make, a_val, a_newD, w_enumL, w_enumT, a_apT, a_apG, a_apL, e_ixG, e_tupF, a_no0, a_no1, e_sliceL, e_sliceT, a_ins, a_cat, e_revL, List.nil_append, List.reverse_nil, subE_BadField_BadField, in_xs_0_BadField, fc_modulus_Field, fc_size_Field, fc_prime_Field, fc_degree_Field, fc_digit_rows_Field, fc_sum_rows_Field, fc_product_rows_Field, fc_negatives_Field, fc_inverses_Field, fc_step_row_Field, subXs_BadField_RankError, subXs_BadField_ValueError, subXs_BadField_BadThing, tf_m_raised_Field_Field, tf_eq_Field, w, n, s, L, x, e, t1, t2, t3, t4, show ((1 : Nat) : Int) = 1 from rfl]
theorem fault_rest (h : q = 2 ∨ q = 3) (z : SeqD M (nums md)) (c1 : 2 ≤ md.length) (c2 : md.length ≤ 5) (hd : ∀ d ∈ md, d < q) (hk : md.getLast? = some 1) (hs : q ^ (md.length - 1) ≤ 27) {b : Bool} (hb : F_has_divisor [.int q, M] = .ok false (.bl b) .non) :
    F_field_fault [.int q, M] = .ok false (if b = true then .str "divisor" else .non) .non := by
  have w := q_whole h
  have s := z.seq
  have l := z.len
  have r := row_eq (q := q) (w := (nums md).length) z (by rw [nums_len]; exact Nat.le_trans c2 (by decide)) nums_pl
  rw [nums_inR hd, decide_eq_true rfl, Bool.and_true] at r
  have i := z.ix (i := -1)
  rw [last_at hk] at i
  have pw := power_eq (q := q) (m := md.length - 1) h (by omega) (by omega)
  rw [show ((md.length - 1 : Nat) : Int) = ((nums md).length : Int) - 1 by rw [nums_len]; omega] at pw
  have c1 : (2 : Int) ≤ ((nums md).length : Int) := by rw [nums_len]; omega
  have c2 : ((nums md).length : Int) ≤ 5 := by rw [nums_len]; omega
  have c3 : ¬ ((q ^ (md.length - 1) : Nat) : Int) > 27 := by omega
  cases b <;> simp only [F_field_fault, B_field_fault, bindR_ok, bindR_ex, a_bind, a_of_some, a_var, a_c, a_bin, a_un, a_test, a_tru, a_cmp, a_and, a_or, a_not, a_if, a_andV, a_orV, a_notV, a_bl, a_nil, a_cons, a_tup, a_lst, a_call, a_callF, a_callIO, a_seq, a_next, a_ret, a_retN, a_drop, a_break, a_cont, a_ifS, a_asg, a_asgG, a_app, a_setI, a_iter, a_rng, a_for, a_slice, a_part0, a_part1, a_lc, a_yes, l_val, l_new, l_slot, f_val, f_new, f_slot, t_val, t_new, t_slot, s_val, s_new, s_slot, a_look2, a_look1, a_fa0, a_fa1, a_la0, a_la1, a_fn1, a_fn2, a_gN, a_gs0, a_gs1, a_gT, a_turn, a_fg0, a_fg1, a_wp0, a_wp1, a_rs0, a_rs1, a_mkF, a_mkIO, a_owL, a_owD, a_tkT, a_tkF, a_apf, a_apb, a_apn, a_aps, e_addI, e_subI, e_mulI, e_divI, e_modI, e_negI, e_lt, e_le, e_gt, e_ge, e_is, e_isnot, a_lift, e_lenL, e_lenT, e_lenS, e_intI, e_intB, e_absI, e_truB, e_truI, e_truN, e_truL, e_truT, e_ixL, e_ixT, e_tupL, e_tupT, e_lstL, e_lstT, e_sum, cEq_int, cNe_int, fin_nx, fin_val, fin_new, fin_slot, fin_ex, finIO_nx, finIO_val, finIO_new, finIO_slot, finIO_ex, entry_eq, entryIO_eq, atI_0, atI_1, atI_2, atI_3, Option.map_some, List.set_cons_zero, List.set_cons_succ, List.getElem?_cons_zero, List.getElem?_cons_succ, List.getElem?_nil, List.getD_cons_zero, List.getD_cons_succ, List.map_cons, List.map_nil, List.length_cons, List.length_nil, List.length_map, List.replicate, List.cons_append, List.nil_append, Nat.reduceAdd, Nat.reduceSub, Nat.reduceLeDiff, Nat.reduceLT, Nat.zero_le, Int.reduceLT, Int.reduceLE, Int.reduceEq, Int.reduceNeg, if_true, if_false, Bool.false_eq_true, Bool.true_eq_false, reduceIte, Bool.or_true, Bool.true_or, Bool.false_or, Bool.or_false, Bool.and_true, Bool.and_false, Bool.true_and, Bool.false_and, Bool.not_true, Bool.not_false, decide_true, decide_false, decide_eq_true_eq, and_self, not_true_eq_false, not_false_eq_true, ite_self, a_try_ok, a_raise0, a_raise, a_h0, a_h1, a_en0, a_en1, a_se_nx, a_se_rt, a_lv0, a_lv1, a_un0, a_un1, a_cx0, a_cx1, a_cx2, a_cx3, a_xf, a_pad, a_walk, a_rev, a_par, a_chain, a_chainB, w_enum, w_zipL, w_zipT, e_max, e_min, e_and, e_sumA, e_sumAT, List.reverse_cons, List.reverse_nil, List.zip_cons_cons, List.zip_nil_left, List.zip_nil_right, a_mIndex, a_fld, a_callT, a_methD, a_make, a_val, a_newD, w_enumL, w_enumT, a_apT, a_apG, a_apL, e_ixG, e_tupF, a_no0, a_no1, e_sliceL, e_sliceT, a_ins, a_cat, e_revL, List.nil_append, List.reverse_nil, subE_BadField_BadField, in_xs_0_BadField, fc_modulus_Field, fc_size_Field, fc_prime_Field, fc_degree_Field, fc_digit_rows_Field, fc_sum_rows_Field, fc_product_rows_Field, fc_negatives_Field, fc_inverses_Field, fc_step_row_Field, subXs_BadField_RankError, subXs_BadField_ValueError, subXs_BadField_BadThing, tf_m_raised_Field_Field, tf_eq_Field, w, s, l, c1, c2, r, a_chainB, e_le, i, pw, c3, hb, show ((1 : Nat) : Int) = 1 from rfl]
theorem due_rest (h : q = 2 ∨ q = 3) (z : SeqD M (nums md)) (c1 : 2 ≤ md.length) (c2 : md.length ≤ 5) (hd : ∀ d ∈ md, d < q) (hk : md.getLast? = some 1) (hs : ¬ (q = 3 ∧ md.length = 5)) {b : Bool} (hb : F__law_parted [.int q, .lst (nums md)] = .ok false (.bl b) .non) :
    F__law_due [.int q, M] = .ok false (if b = true then .str "divisor" else .non) .non := by
  have w := lawwhole_eq (d := .int (q : Int)) rfl
  dsimp only [isI] at w
  have n := q_in h
  have s := z_isi z
  have L := (due_loop (q := q) (M := M) (nums_pl (md := md))).1 (nums_inR hd)
  have x := last_at hk
  have c1 : ¬ ((nums md).length : Int) < 2 := by rw [nums_len]; omega
  have c2 : ¬ ((nums md).length : Int) > 5 := by rw [nums_len]; omega
  by_cases q3 : (q : Int) = 3
  · have e5 : ¬ ((nums md).length : Int) = 5 := by rw [nums_len]; omega
    rcases z with rfl | rfl <;> cases b <;> simp only [F__law_due, B__law_due, bindR_ok, bindR_ex, a_bind, a_of_some, a_var, a_c, a_bin, a_un, a_test, a_tru, a_cmp, a_and, a_or, a_not, a_if, a_andV, a_orV, a_notV, a_bl, a_nil, a_cons, a_tup, a_lst, a_call, a_callF, a_callIO, a_seq, a_next, a_ret, a_retN, a_drop, a_break, a_cont, a_ifS, a_asg, a_asgG, a_app, a_setI, a_iter, a_rng, a_for, a_slice, a_part0, a_part1, a_lc, a_yes, l_val, l_new, l_slot, f_val, f_new, f_slot, t_val, t_new, t_slot, s_val, s_new, s_slot, a_look2, a_look1, a_fa0, a_fa1, a_la0, a_la1, a_fn1, a_fn2, a_gN, a_gs0, a_gs1, a_gT, a_turn, a_fg0, a_fg1, a_wp0, a_wp1, a_rs0, a_rs1, a_mkF, a_mkIO, a_owL, a_owD, a_tkT, a_tkF, a_apf, a_apb, a_apn, a_aps, e_addI, e_subI, e_mulI, e_divI, e_modI, e_negI, e_lt, e_le, e_gt, e_ge, e_is, e_isnot, a_lift, e_lenL, e_lenT, e_lenS, e_intI, e_intB, e_absI, e_truB, e_truI, e_truN, e_truL, e_truT, e_ixL, e_ixT, e_tupL, e_tupT, e_lstL, e_lstT, e_sum, cEq_int, cNe_int, fin_nx, fin_val, fin_new, fin_slot, fin_ex, finIO_nx, finIO_val, finIO_new, finIO_slot, finIO_ex, entry_eq, entryIO_eq, atI_0, atI_1, atI_2, atI_3, Option.map_some, List.set_cons_zero, List.set_cons_succ, List.getElem?_cons_zero, List.getElem?_cons_succ, List.getElem?_nil, List.getD_cons_zero, List.getD_cons_succ, List.map_cons, List.map_nil, List.length_cons, List.length_nil, List.length_map, List.replicate, List.cons_append, List.nil_append, Nat.reduceAdd, Nat.reduceSub, Nat.reduceLeDiff, Nat.reduceLT, Nat.zero_le, Int.reduceLT, Int.reduceLE, Int.reduceEq, Int.reduceNeg, if_true, if_false, Bool.false_eq_true, Bool.true_eq_false, reduceIte, Bool.or_true, Bool.true_or, Bool.false_or, Bool.or_false, Bool.and_true, Bool.and_false, Bool.true_and, Bool.false_and, Bool.not_true, Bool.not_false, decide_true, decide_false, decide_eq_true_eq, and_self, not_true_eq_false, not_false_eq_true, ite_self, a_try_ok, a_raise0, a_raise, a_h0, a_h1, a_en0, a_en1, a_se_nx, a_se_rt, a_lv0, a_lv1, a_un0, a_un1, a_cx0, a_cx1, a_cx2, a_cx3, a_xf, a_pad, a_walk, a_rev, a_par, a_chain, a_chainB, w_enum, w_zipL, w_zipT, e_max, e_min, e_and, e_sumA, e_sumAT, List.reverse_cons, List.reverse_nil, List.zip_cons_cons, List.zip_nil_left, List.zip_nil_right, a_mIndex, a_fld, a_callT, a_methD, a_make, a_val, a_newD, w_enumL, w_enumT, a_apT, a_apG, a_apL, e_ixG, e_tupF, a_no0, a_no1, e_sliceL, e_sliceT, a_ins, a_cat, e_revL, List.nil_append, List.reverse_nil, subE_BadField_BadField, in_xs_0_BadField, fc_modulus_Field, fc_size_Field, fc_prime_Field, fc_degree_Field, fc_digit_rows_Field, fc_sum_rows_Field, fc_product_rows_Field, fc_negatives_Field, fc_inverses_Field, fc_step_row_Field, subXs_BadField_RankError, subXs_BadField_ValueError, subXs_BadField_BadThing, tf_m_raised_Field_Field, tf_eq_Field, w, n, s, c1, c2, L, x, e5, hb, show ((1 : Nat) : Int) = 1 from rfl, ite_self]
  · rcases z with rfl | rfl <;> cases b <;> simp only [F__law_due, B__law_due, bindR_ok, bindR_ex, a_bind, a_of_some, a_var, a_c, a_bin, a_un, a_test, a_tru, a_cmp, a_and, a_or, a_not, a_if, a_andV, a_orV, a_notV, a_bl, a_nil, a_cons, a_tup, a_lst, a_call, a_callF, a_callIO, a_seq, a_next, a_ret, a_retN, a_drop, a_break, a_cont, a_ifS, a_asg, a_asgG, a_app, a_setI, a_iter, a_rng, a_for, a_slice, a_part0, a_part1, a_lc, a_yes, l_val, l_new, l_slot, f_val, f_new, f_slot, t_val, t_new, t_slot, s_val, s_new, s_slot, a_look2, a_look1, a_fa0, a_fa1, a_la0, a_la1, a_fn1, a_fn2, a_gN, a_gs0, a_gs1, a_gT, a_turn, a_fg0, a_fg1, a_wp0, a_wp1, a_rs0, a_rs1, a_mkF, a_mkIO, a_owL, a_owD, a_tkT, a_tkF, a_apf, a_apb, a_apn, a_aps, e_addI, e_subI, e_mulI, e_divI, e_modI, e_negI, e_lt, e_le, e_gt, e_ge, e_is, e_isnot, a_lift, e_lenL, e_lenT, e_lenS, e_intI, e_intB, e_absI, e_truB, e_truI, e_truN, e_truL, e_truT, e_ixL, e_ixT, e_tupL, e_tupT, e_lstL, e_lstT, e_sum, cEq_int, cNe_int, fin_nx, fin_val, fin_new, fin_slot, fin_ex, finIO_nx, finIO_val, finIO_new, finIO_slot, finIO_ex, entry_eq, entryIO_eq, atI_0, atI_1, atI_2, atI_3, Option.map_some, List.set_cons_zero, List.set_cons_succ, List.getElem?_cons_zero, List.getElem?_cons_succ, List.getElem?_nil, List.getD_cons_zero, List.getD_cons_succ, List.map_cons, List.map_nil, List.length_cons, List.length_nil, List.length_map, List.replicate, List.cons_append, List.nil_append, Nat.reduceAdd, Nat.reduceSub, Nat.reduceLeDiff, Nat.reduceLT, Nat.zero_le, Int.reduceLT, Int.reduceLE, Int.reduceEq, Int.reduceNeg, if_true, if_false, Bool.false_eq_true, Bool.true_eq_false, reduceIte, Bool.or_true, Bool.true_or, Bool.false_or, Bool.or_false, Bool.and_true, Bool.and_false, Bool.true_and, Bool.false_and, Bool.not_true, Bool.not_false, decide_true, decide_false, decide_eq_true_eq, and_self, not_true_eq_false, not_false_eq_true, ite_self, a_try_ok, a_raise0, a_raise, a_h0, a_h1, a_en0, a_en1, a_se_nx, a_se_rt, a_lv0, a_lv1, a_un0, a_un1, a_cx0, a_cx1, a_cx2, a_cx3, a_xf, a_pad, a_walk, a_rev, a_par, a_chain, a_chainB, w_enum, w_zipL, w_zipT, e_max, e_min, e_and, e_sumA, e_sumAT, List.reverse_cons, List.reverse_nil, List.zip_cons_cons, List.zip_nil_left, List.zip_nil_right, a_mIndex, a_fld, a_callT, a_methD, a_make, a_val, a_newD, w_enumL, w_enumT, a_apT, a_apG, a_apL, e_ixG, e_tupF, a_no0, a_no1, e_sliceL, e_sliceT, a_ins, a_cat, e_revL, List.nil_append, List.reverse_nil, subE_BadField_BadField, in_xs_0_BadField, fc_modulus_Field, fc_size_Field, fc_prime_Field, fc_degree_Field, fc_digit_rows_Field, fc_sum_rows_Field, fc_product_rows_Field, fc_negatives_Field, fc_inverses_Field, fc_step_row_Field, subXs_BadField_RankError, subXs_BadField_ValueError, subXs_BadField_BadThing, tf_m_raised_Field_Field, tf_eq_Field, w, n, s, c1, c2, L, x, q3, hb, show ((1 : Nat) : Int) = 1 from rfl]
end
end
/-! ### the moduli, one by one -/
def FLDS : List (Nat × List Nat) := [(2, [0, 1]), (2, [1, 1]), (2, [1, 1, 1]), (2, [1, 1, 0, 1]), (2, [1, 0, 1, 1]), (2, [1, 1, 0, 0, 1]), (2, [1, 0, 0, 1, 1]), (2, [1, 1, 1, 1, 1]), (3, [0, 1]), (3, [1, 1]), (3, [2, 1]), (3, [1, 0, 1]), (3, [2, 1, 1]), (3, [2, 2, 1]), (3, [1, 2, 0, 1]), (3, [2, 2, 0, 1]), (3, [2, 0, 1, 1]), (3, [2, 1, 1, 1]), (3, [1, 2, 1, 1]), (3, [1, 0, 2, 1]), (3, [1, 1, 2, 1]), (3, [2, 2, 2, 1])]
def NOTF : List (Nat × List Nat) := [(2, [0, 0, 1]), (2, [1, 0, 1]), (2, [0, 1, 1]), (2, [0, 0, 0, 1]), (2, [1, 0, 0, 1]), (2, [0, 1, 0, 1]), (2, [0, 0, 1, 1]), (2, [0, 1, 1, 1]), (2, [1, 1, 1, 1]), (2, [0, 0, 0, 0, 1]), (2, [1, 0, 0, 0, 1]), (2, [0, 1, 0, 0, 1]), (2, [0, 0, 1, 0, 1]), (2, [1, 0, 1, 0, 1]), (2, [0, 1, 1, 0, 1]), (2, [1, 1, 1, 0, 1]), (2, [0, 0, 0, 1, 1]), (2, [0, 1, 0, 1, 1]), (2, [1, 1, 0, 1, 1]), (2, [0, 0, 1, 1, 1]), (2, [1, 0, 1, 1, 1]), (2, [0, 1, 1, 1, 1]), (3, [0, 0, 1]), (3, [2, 0, 1]), (3, [0, 1, 1]), (3, [1, 1, 1]), (3, [0, 2, 1]), (3, [1, 2, 1]), (3, [0, 0, 0, 1]), (3, [1, 0, 0, 1]), (3, [2, 0, 0, 1]), (3, [0, 1, 0, 1]), (3, [1, 1, 0, 1]), (3, [2, 1, 0, 1]), (3, [0, 2, 0, 1]), (3, [0, 0, 1, 1]), (3, [1, 0, 1, 1]), (3, [0, 1, 1, 1]), (3, [1, 1, 1, 1]), (3, [0, 2, 1, 1]), (3, [2, 2, 1, 1]), (3, [0, 0, 2, 1]), (3, [2, 0, 2, 1]), (3, [0, 1, 2, 1]), (3, [2, 1, 2, 1]), (3, [0, 2, 2, 1]), (3, [1, 2, 2, 1])]
def isB (b : Bool) : Rf → Bool
  | .ok false (.bl c) .non => c == b
  | _ => false
theorem isB_eq {b : Bool} {r : Rf} (h : isB b r = true) : r = .ok false (.bl b) .non := by
  cases r with
  | ok n d p =>
    cases n with
    | true => cases h
    | false =>
      cases d with
      | bl c =>
        cases p with
        | non =>
          have : c = b := by simpa [isB] using h
          rw [this]
        | _ => cases h
      | _ => cases h
  | ex _ _ _ _ => cases h
  | bad => cases h
def chk (b : Bool) (p : Nat × List Nat) : Bool := isB b (F_has_divisor [.int p.1, .lst (nums p.2)]) && isB b (F_has_divisor [.int p.1, .tup (nums p.2)]) && isB b (F__law_parted [.int p.1, .lst (nums p.2)])
theorem chk_F : FLDS.all (chk false) = true := by decide +kernel
theorem chk_N : NOTF.all (chk true) = true := by decide +kernel
def invB (p : Nat × List Nat) : Bool := let m := p.2.length - 1
  (List.range (p.1 ^ m)).all fun a => (sumRow p.1 m a).contains 0 && (a == 0 || (prodRow p.1 p.2 m a).contains 1)
theorem inv_F : FLDS.all invB = true := by decide +kernel
def basB (p : Nat × List Nat) : Bool := (p.1 == 2 || p.1 == 3) && decide (2 ≤ p.2.length) && decide (p.2.length ≤ 5) && p.2.all (fun d => decide (d < p.1)) && p.2.getLast? == some 1 && decide (p.1 ^ (p.2.length - 1) ≤ 27)
theorem bas_F : FLDS.all basB = true := by decide +kernel
theorem bas_N : NOTF.all basB = true := by decide +kernel
structure Bas (q : Nat) (md : List Nat) : Prop where
  h : q = 2 ∨ q = 3
  c1 : 2 ≤ md.length
  c2 : md.length ≤ 5
  hd : ∀ d ∈ md, d < q
  hk : md.getLast? = some 1
  hs : q ^ (md.length - 1) ≤ 27
theorem bas_of {p : Nat × List Nat} (h : basB p = true) : Bas p.1 p.2 := by
  unfold basB at h
  simp only [Bool.and_eq_true, Bool.or_eq_true, beq_iff_eq, decide_eq_true_eq, List.all_eq_true] at h
  obtain ⟨⟨⟨⟨⟨a, b⟩, c⟩, d⟩, e⟩, f⟩ := h
  exact ⟨a, b, c, d, e, f⟩
theorem Bas.n5 {q : Nat} {md : List Nat} (b : Bas q md) : ¬ (q = 3 ∧ md.length = 5) := by
  rintro ⟨rfl, h⟩
  have := b.hs
  rw [h] at this
  exact absurd this (by decide)
theorem chk_of {b : Bool} {p : Nat × List Nat} (h : chk b p = true) : (∀ z, SeqD z (nums p.2) → F_has_divisor [.int p.1, z] = .ok false (.bl b) .non) ∧ F__law_parted [.int p.1, .lst (nums p.2)] = .ok false (.bl b) .non := by
  unfold chk at h
  rw [Bool.and_eq_true, Bool.and_eq_true] at h
  refine ⟨fun z hz => ?_, isB_eq h.2⟩
  rcases hz with rfl | rfl
  · exact isB_eq h.1.1
  · exact isB_eq h.1.2
/-- one of the fields -/
structure IsF (q m : Nat) (md : List Nat) : Prop where
  h : q = 2 ∨ q = 3
  hl : md.length = m + 1
  h0 : 0 < m
  h4 : m ≤ 4
  h1 : ∀ d ∈ md, d < q
  hk : md.getLast? = some 1
  hn : q ^ m ≤ 27
  hi : invOk q md m
  hf : ∀ z, SeqD z (nums md) → F_field_fault [.int q, z] = .ok false .non .non
  hd : ∀ z, SeqD z (nums md) → F__law_due [.int q, z] = .ok false .non .non
theorem isF_of {q : Nat} {md : List Nat} (h : (q, md) ∈ FLDS) : ∃ m, IsF q m md := by
  have b := bas_of (List.all_eq_true.mp bas_F _ h)
  obtain ⟨c1, c2⟩ := chk_of (List.all_eq_true.mp chk_F _ h)
  have i := List.all_eq_true.mp inv_F _ h
  dsimp only at b c1 c2
  refine ⟨md.length - 1, b.h, by have := b.c1; omega, by have := b.c1; omega, by have := b.c2; omega, b.hd, b.hk, b.hs, ?_, ?_, ?_⟩
  · have i1 := List.all_eq_true.mp i
    refine ⟨fun a ha => ?_, fun a ha h0 => ?_⟩
    · have := i1 a (List.mem_range.mpr ha)
      rw [Bool.and_eq_true] at this
      simpa using this.1
    · have := i1 a (List.mem_range.mpr ha)
      rw [Bool.and_eq_true, Bool.or_eq_true] at this
      rcases this.2 with h | h
      · rw [beq_iff_eq] at h; omega
      · simpa using h
  · intro z hz
    have := fault_rest b.h hz b.c1 b.c2 b.hd b.hk b.hs (c1 z hz)
    rw [if_neg (by decide)] at this
    exact this
  · intro z hz
    have := due_rest b.h hz b.c1 b.c2 b.hd b.hk b.n5 c2
    rw [if_neg (by decide)] at this
    exact this
theorem notF_of {q : Nat} {md : List Nat} (h : (q, md) ∈ NOTF) (z : D) (hz : SeqD z (nums md)) : F_field_fault [.int q, z] = .ok false (.str "divisor") .non ∧ F__law_due [.int q, z] = .ok false (.str "divisor") .non := by
  have b := bas_of (List.all_eq_true.mp bas_N _ h)
  obtain ⟨c1, c2⟩ := chk_of (List.all_eq_true.mp chk_N _ h)
  dsimp only at b c1 c2
  have a1 := fault_rest b.h hz b.c1 b.c2 b.hd b.hk b.hs (c1 z hz)
  have a2 := due_rest b.h hz b.c1 b.c2 b.hd b.hk b.n5 c2
  rw [if_pos rfl] at a1 a2
  exact ⟨a1, a2⟩
theorem lt2 {a : Nat} (h : a < 2) : a = 0 ∨ a = 1 := by omega
theorem lt3 {a : Nat} (h : a < 3) : a = 0 ∨ a = 1 ∨ a = 2 := by omega
def memB (p : Nat × List Nat) : Bool := FLDS.contains p || NOTF.contains p
theorem memB_of {p : Nat × List Nat} (h : memB p = true) : p ∈ FLDS ∨ p ∈ NOTF := by
  unfold memB at h
  rw [Bool.or_eq_true, List.contains_iff_mem, List.contains_iff_mem] at h
  exact h
theorem all_rng {n a : Nat} {p : Nat → Bool} (h : (List.range n).all p = true) (ha : a < n) : p a = true := List.all_eq_true.mp h a (List.mem_range.mpr ha)
theorem a21 : ((List.range 2).all fun a => memB (2, [a, 1])) = true := by decide +kernel
theorem a22 : ((List.range 2).all fun a => (List.range 2).all fun b => memB (2, [a, b, 1])) = true := by decide +kernel
theorem a23 : ((List.range 2).all fun a => (List.range 2).all fun b => (List.range 2).all fun c => memB (2, [a, b, c, 1])) = true := by decide +kernel
theorem a24 : ((List.range 2).all fun a => (List.range 2).all fun b => (List.range 2).all fun c => (List.range 2).all fun d => memB (2, [a, b, c, d, 1])) = true := by decide +kernel
theorem a31 : ((List.range 3).all fun a => memB (3, [a, 1])) = true := by decide +kernel
theorem a32 : ((List.range 3).all fun a => (List.range 3).all fun b => memB (3, [a, b, 1])) = true := by decide +kernel
theorem a33 : ((List.range 3).all fun a => (List.range 3).all fun b => (List.range 3).all fun c => memB (3, [a, b, c, 1])) = true := by decide +kernel
theorem all_mods {q : Nat} (h : q = 2 ∨ q = 3) : ∀ {md : List Nat}, 2 ≤ md.length → md.length ≤ 5 → (∀ d ∈ md, d < q) → md.getLast? = some 1 → ¬ (q = 3 ∧ md.length = 5) → (q, md) ∈ FLDS ∨ (q, md) ∈ NOTF
  | [], c1, _, _, _, _ => by cases c1
  | [a], c1, _, _, _, _ => by exact absurd c1 (by simp)
  | [a, b], _, _, hd, hk, _ => by
    obtain rfl : b = 1 := by simpa using hk
    have h1 := hd a (by simp)
    rcases h with rfl | rfl
    · exact memB_of (all_rng a21 h1)
    · exact memB_of (all_rng a31 h1)
  | [a, b, c], _, _, hd, hk, _ => by
    obtain rfl : c = 1 := by simpa using hk
    have h1 := hd a (by simp)
    have h2 := hd b (by simp)
    rcases h with rfl | rfl
    · exact memB_of (all_rng (all_rng a22 h1) h2)
    · exact memB_of (all_rng (all_rng a32 h1) h2)
  | [a, b, c, d], _, _, hd, hk, _ => by
    obtain rfl : d = 1 := by simpa using hk
    have h1 := hd a (by simp)
    have h2 := hd b (by simp)
    have h3 := hd c (by simp)
    rcases h with rfl | rfl
    · exact memB_of (all_rng (all_rng (all_rng a23 h1) h2) h3)
    · exact memB_of (all_rng (all_rng (all_rng a33 h1) h2) h3)
  | [a, b, c, d, e], _, _, hd, hk, n5 => by
    obtain rfl : e = 1 := by simpa using hk
    have h1 := hd a (by simp)
    have h2 := hd b (by simp)
    have h3 := hd c (by simp)
    have h4 := hd d (by simp)
    rcases h with rfl | rfl
    · exact memB_of (all_rng (all_rng (all_rng (all_rng a24 h1) h2) h3) h4)
    · exact absurd ⟨rfl, rfl⟩ n5
  | _ :: _ :: _ :: _ :: _ :: _ :: _, _, c2, _, _, _ => by
    simp only [List.length_cons] at c2
    omega
/-! ### what the law tells -/
theorem told_bad {P M : D} {w : Str} (hf : F_field_fault [P, M] = .ok false (.str w) .non) : F__law_told [P, M] = .ok false (.str w) .non := by
  have i : F_Field___init__ [.ins cl_Field [] [], P, M] = .ex cl_BadField ["what"] [.str w] (.ins cl_Field [] []) := by
    dsimp only [F_Field___init__, B_Field___init__]
    generalize F_field_fault = FF at hf ⊢
    simp only [bindR_ok, bindR_ex, a_bind, a_of_some, a_var, a_c, a_bin, a_un, a_test, a_tru, a_cmp, a_and, a_or, a_not, a_if, a_andV, a_orV, a_notV, a_bl, a_nil, a_cons, a_tup, a_lst, a_call, a_callF, a_callIO, a_seq, a_next, a_ret, a_retN, a_drop, a_break, a_cont, a_ifS, a_asg, a_asgG, a_app, a_setI, a_iter, a_rng, a_for, a_slice, a_part0, a_part1, a_lc, a_yes, l_val, l_new, l_slot, f_val, f_new, f_slot, t_val, t_new, t_slot, s_val, s_new, s_slot, a_look2, a_look1, a_fa0, a_fa1, a_la0, a_la1, a_fn1, a_fn2, a_gN, a_gs0, a_gs1, a_gT, a_turn, a_fg0, a_fg1, a_wp0, a_wp1, a_rs0, a_rs1, a_mkF, a_mkIO, a_owL, a_owD, a_tkT, a_tkF, a_apf, a_apb, a_apn, a_aps, e_addI, e_subI, e_mulI, e_divI, e_modI, e_negI, e_lt, e_le, e_gt, e_ge, e_is, e_isnot, a_lift, e_lenL, e_lenT, e_lenS, e_intI, e_intB, e_absI, e_truB, e_truI, e_truN, e_truL, e_truT, e_ixL, e_ixT, e_tupL, e_tupT, e_lstL, e_lstT, e_sum, cEq_int, cNe_int, fin_nx, fin_val, fin_new, fin_slot, fin_ex, finIO_nx, finIO_val, finIO_new, finIO_slot, finIO_ex, entry_eq, entryIO_eq, atI_0, atI_1, atI_2, atI_3, Option.map_some, List.set_cons_zero, List.set_cons_succ, List.getElem?_cons_zero, List.getElem?_cons_succ, List.getElem?_nil, List.getD_cons_zero, List.getD_cons_succ, List.map_cons, List.map_nil, List.length_cons, List.length_nil, List.length_map, List.replicate, List.cons_append, List.nil_append, Nat.reduceAdd, Nat.reduceSub, Nat.reduceLeDiff, Nat.reduceLT, Nat.zero_le, Int.reduceLT, Int.reduceLE, Int.reduceEq, Int.reduceNeg, if_true, if_false, Bool.false_eq_true, Bool.true_eq_false, reduceIte, Bool.or_true, Bool.true_or, Bool.false_or, Bool.or_false, Bool.and_true, Bool.and_false, Bool.true_and, Bool.false_and, Bool.not_true, Bool.not_false, decide_true, decide_false, decide_eq_true_eq, and_self, not_true_eq_false, not_false_eq_true, ite_self, a_try_ok, a_raise0, a_raise, a_h0, a_h1, a_en0, a_en1, a_se_nx, a_se_rt, a_lv0, a_lv1, a_un0, a_un1, a_cx0, a_cx1, a_cx2, a_cx3, a_xf, a_pad, a_walk, a_rev, a_par, a_chain, a_chainB, w_enum, w_zipL, w_zipT, e_max, e_min, e_and, e_sumA, e_sumAT, List.reverse_cons, List.reverse_nil, List.zip_cons_cons, List.zip_nil_left, List.zip_nil_right, a_mIndex, a_fld, a_callT, a_methD, a_make, a_val, a_newD, w_enumL, w_enumT, a_apT, a_apG, a_apL, e_ixG, e_tupF, a_no0, a_no1, e_sliceL, e_sliceT, a_ins, a_cat, e_revL, List.nil_append, List.reverse_nil, subE_BadField_BadField, in_xs_0_BadField, fc_modulus_Field, fc_size_Field, fc_prime_Field, fc_degree_Field, fc_digit_rows_Field, fc_sum_rows_Field, fc_product_rows_Field, fc_negatives_Field, fc_inverses_Field, fc_step_row_Field, subXs_BadField_RankError, subXs_BadField_ValueError, subXs_BadField_BadThing, tf_m_raised_Field_Field, tf_eq_Field, hf, D.isN]
    try rfl
  have s1 := subXs_BadField_RankError
  have s2 := subXs_BadField_ValueError
  have s3 := subXs_BadField_BadThing
  simp only [F__law_told, B__law_told, bindR_ok, bindR_ex, a_bind, a_of_some, a_var, a_c, a_bin, a_un, a_test, a_tru, a_cmp, a_and, a_or, a_not, a_if, a_andV, a_orV, a_notV, a_bl, a_nil, a_cons, a_tup, a_lst, a_call, a_callF, a_callIO, a_seq, a_next, a_ret, a_retN, a_drop, a_break, a_cont, a_ifS, a_asg, a_asgG, a_app, a_setI, a_iter, a_rng, a_for, a_slice, a_part0, a_part1, a_lc, a_yes, l_val, l_new, l_slot, f_val, f_new, f_slot, t_val, t_new, t_slot, s_val, s_new, s_slot, a_look2, a_look1, a_fa0, a_fa1, a_la0, a_la1, a_fn1, a_fn2, a_gN, a_gs0, a_gs1, a_gT, a_turn, a_fg0, a_fg1, a_wp0, a_wp1, a_rs0, a_rs1, a_mkF, a_mkIO, a_owL, a_owD, a_tkT, a_tkF, a_apf, a_apb, a_apn, a_aps, e_addI, e_subI, e_mulI, e_divI, e_modI, e_negI, e_lt, e_le, e_gt, e_ge, e_is, e_isnot, a_lift, e_lenL, e_lenT, e_lenS, e_intI, e_intB, e_absI, e_truB, e_truI, e_truN, e_truL, e_truT, e_ixL, e_ixT, e_tupL, e_tupT, e_lstL, e_lstT, e_sum, cEq_int, cNe_int, fin_nx, fin_val, fin_new, fin_slot, fin_ex, finIO_nx, finIO_val, finIO_new, finIO_slot, finIO_ex, entry_eq, entryIO_eq, atI_0, atI_1, atI_2, atI_3, Option.map_some, List.set_cons_zero, List.set_cons_succ, List.getElem?_cons_zero, List.getElem?_cons_succ, List.getElem?_nil, List.getD_cons_zero, List.getD_cons_succ, List.map_cons, List.map_nil, List.length_cons, List.length_nil, List.length_map, List.replicate, List.cons_append, List.nil_append, Nat.reduceAdd, Nat.reduceSub, Nat.reduceLeDiff, Nat.reduceLT, Nat.zero_le, Int.reduceLT, Int.reduceLE, Int.reduceEq, Int.reduceNeg, if_true, if_false, Bool.false_eq_true, Bool.true_eq_false, reduceIte, Bool.or_true, Bool.true_or, Bool.false_or, Bool.or_false, Bool.and_true, Bool.and_false, Bool.true_and, Bool.false_and, Bool.not_true, Bool.not_false, decide_true, decide_false, decide_eq_true_eq, and_self, not_true_eq_false, not_false_eq_true, ite_self, a_try_ok, a_raise0, a_raise, a_h0, a_h1, a_en0, a_en1, a_se_nx, a_se_rt, a_lv0, a_lv1, a_un0, a_un1, a_cx0, a_cx1, a_cx2, a_cx3, a_xf, a_pad, a_walk, a_rev, a_par, a_chain, a_chainB, w_enum, w_zipL, w_zipT, e_max, e_min, e_and, e_sumA, e_sumAT, List.reverse_cons, List.reverse_nil, List.zip_cons_cons, List.zip_nil_left, List.zip_nil_right, a_mIndex, a_fld, a_callT, a_methD, a_make, a_val, a_newD, w_enumL, w_enumT, a_apT, a_apG, a_apL, e_ixG, e_tupF, a_no0, a_no1, e_sliceL, e_sliceT, a_ins, a_cat, e_revL, List.nil_append, List.reverse_nil, subE_BadField_BadField, in_xs_0_BadField, fc_modulus_Field, fc_size_Field, fc_prime_Field, fc_degree_Field, fc_digit_rows_Field, fc_sum_rows_Field, fc_product_rows_Field, fc_negatives_Field, fc_inverses_Field, fc_step_row_Field, subXs_BadField_RankError, subXs_BadField_ValueError, subXs_BadField_BadThing, tf_m_raised_Field_Field, tf_eq_Field, i, subE_BadField_BadField, s1, s2, s3, in_xs_0_BadField, D.isN]
  try rfl
section
variable {q m : Nat} {md : List Nat} {M : D}
theorem lawpower_eq (h : q = 2 ∨ q = 3) (hm : m ≤ 1000) (hn : q ^ m ≤ 100000) : F__law_power [.int q, .int m] = .ok false (.int (q ^ m : Nat)) .non := by
  have L := loop_rng (g := gN 3) (junk := [3]) (body := L__law_power_1) (fun k => [.sh (.int q), .sh (.int m), .sh (.int (q ^ k : Nat)), .no]) 0 m (fun k hk => by
    have pk : q ^ k ≤ q ^ m := Nat.pow_le_pow_right (by omega) (by omega)
    have mo : mulOk ((q ^ k : Nat) : Int) (q : Int) = true := mulOk_le (a := 20) (b := 2) (by omega) (by omega) (by omega)
    have e1 : ((q ^ k : Nat) : Int) * (q : Int) = ((q ^ (k + 1) : Nat) : Int) := by rw [Nat.pow_succ, Int.natCast_mul]
    simp only [L__law_power_1, bindR_ok, bindR_ex, a_bind, a_of_some, a_var, a_c, a_bin, a_un, a_test, a_tru, a_cmp, a_and, a_or, a_not, a_if, a_andV, a_orV, a_notV, a_bl, a_nil, a_cons, a_tup, a_lst, a_call, a_callF, a_callIO, a_seq, a_next, a_ret, a_retN, a_drop, a_break, a_cont, a_ifS, a_asg, a_asgG, a_app, a_setI, a_iter, a_rng, a_for, a_slice, a_part0, a_part1, a_lc, a_yes, l_val, l_new, l_slot, f_val, f_new, f_slot, t_val, t_new, t_slot, s_val, s_new, s_slot, a_look2, a_look1, a_fa0, a_fa1, a_la0, a_la1, a_fn1, a_fn2, a_gN, a_gs0, a_gs1, a_gT, a_turn, a_fg0, a_fg1, a_wp0, a_wp1, a_rs0, a_rs1, a_mkF, a_mkIO, a_owL, a_owD, a_tkT, a_tkF, a_apf, a_apb, a_apn, a_aps, e_addI, e_subI, e_mulI, e_divI, e_modI, e_negI, e_lt, e_le, e_gt, e_ge, e_is, e_isnot, a_lift, e_lenL, e_lenT, e_lenS, e_intI, e_intB, e_absI, e_truB, e_truI, e_truN, e_truL, e_truT, e_ixL, e_ixT, e_tupL, e_tupT, e_lstL, e_lstT, e_sum, cEq_int, cNe_int, fin_nx, fin_val, fin_new, fin_slot, fin_ex, finIO_nx, finIO_val, finIO_new, finIO_slot, finIO_ex, entry_eq, entryIO_eq, atI_0, atI_1, atI_2, atI_3, Option.map_some, List.set_cons_zero, List.set_cons_succ, List.getElem?_cons_zero, List.getElem?_cons_succ, List.getElem?_nil, List.getD_cons_zero, List.getD_cons_succ, List.map_cons, List.map_nil, List.length_cons, List.length_nil, List.length_map, List.replicate, List.cons_append, List.nil_append, Nat.reduceAdd, Nat.reduceSub, Nat.reduceLeDiff, Nat.reduceLT, Nat.zero_le, Int.reduceLT, Int.reduceLE, Int.reduceEq, Int.reduceNeg, if_true, if_false, Bool.false_eq_true, Bool.true_eq_false, reduceIte, Bool.or_true, Bool.true_or, Bool.false_or, Bool.or_false, Bool.and_true, Bool.and_false, Bool.true_and, Bool.false_and, Bool.not_true, Bool.not_false, decide_true, decide_false, decide_eq_true_eq, and_self, not_true_eq_false, not_false_eq_true, ite_self, a_try_ok, a_raise0, a_raise, a_h0, a_h1, a_en0, a_en1, a_se_nx, a_se_rt, a_lv0, a_lv1, a_un0, a_un1, a_cx0, a_cx1, a_cx2, a_cx3, a_xf, a_pad, a_walk, a_rev, a_par, a_chain, a_chainB, w_enum, w_zipL, w_zipT, e_max, e_min, e_and, e_sumA, e_sumAT, List.reverse_cons, List.reverse_nil, List.zip_cons_cons, List.zip_nil_left, List.zip_nil_right, a_mIndex, a_fld, a_callT, a_methD, a_make, a_val, a_newD, w_enumL, w_enumT, a_apT, a_apG, a_apL, e_ixG, e_tupF, a_no0, a_no1, e_sliceL, e_sliceT, a_ins, a_cat, e_revL, List.nil_append, List.reverse_nil, subE_BadField_BadField, in_xs_0_BadField, fc_modulus_Field, fc_size_Field, fc_prime_Field, fc_degree_Field, fc_digit_rows_Field, fc_sum_rows_Field, fc_product_rows_Field, fc_negatives_Field, fc_inverses_Field, fc_step_row_Field, subXs_BadField_RankError, subXs_BadField_ValueError, subXs_BadField_BadThing, tf_m_raised_Field_Field, tf_eq_Field, e_mulI mo, e1])
  have ok1 : okR (m : Int) = true := okN (by omega)
  rw [Nat.pow_zero] at L
  rw [show ((1 : Nat) : Int) = 1 from rfl] at L
  simp only [F__law_power, B__law_power, bindR_ok, bindR_ex, a_bind, a_of_some, a_var, a_c, a_bin, a_un, a_test, a_tru, a_cmp, a_and, a_or, a_not, a_if, a_andV, a_orV, a_notV, a_bl, a_nil, a_cons, a_tup, a_lst, a_call, a_callF, a_callIO, a_seq, a_next, a_ret, a_retN, a_drop, a_break, a_cont, a_ifS, a_asg, a_asgG, a_app, a_setI, a_iter, a_rng, a_for, a_slice, a_part0, a_part1, a_lc, a_yes, l_val, l_new, l_slot, f_val, f_new, f_slot, t_val, t_new, t_slot, s_val, s_new, s_slot, a_look2, a_look1, a_fa0, a_fa1, a_la0, a_la1, a_fn1, a_fn2, a_gN, a_gs0, a_gs1, a_gT, a_turn, a_fg0, a_fg1, a_wp0, a_wp1, a_rs0, a_rs1, a_mkF, a_mkIO, a_owL, a_owD, a_tkT, a_tkF, a_apf, a_apb, a_apn, a_aps, e_addI, e_subI, e_mulI, e_divI, e_modI, e_negI, e_lt, e_le, e_gt, e_ge, e_is, e_isnot, a_lift, e_lenL, e_lenT, e_lenS, e_intI, e_intB, e_absI, e_truB, e_truI, e_truN, e_truL, e_truT, e_ixL, e_ixT, e_tupL, e_tupT, e_lstL, e_lstT, e_sum, cEq_int, cNe_int, fin_nx, fin_val, fin_new, fin_slot, fin_ex, finIO_nx, finIO_val, finIO_new, finIO_slot, finIO_ex, entry_eq, entryIO_eq, atI_0, atI_1, atI_2, atI_3, Option.map_some, List.set_cons_zero, List.set_cons_succ, List.getElem?_cons_zero, List.getElem?_cons_succ, List.getElem?_nil, List.getD_cons_zero, List.getD_cons_succ, List.map_cons, List.map_nil, List.length_cons, List.length_nil, List.length_map, List.replicate, List.cons_append, List.nil_append, Nat.reduceAdd, Nat.reduceSub, Nat.reduceLeDiff, Nat.reduceLT, Nat.zero_le, Int.reduceLT, Int.reduceLE, Int.reduceEq, Int.reduceNeg, if_true, if_false, Bool.false_eq_true, Bool.true_eq_false, reduceIte, Bool.or_true, Bool.true_or, Bool.false_or, Bool.or_false, Bool.and_true, Bool.and_false, Bool.true_and, Bool.false_and, Bool.not_true, Bool.not_false, decide_true, decide_false, decide_eq_true_eq, and_self, not_true_eq_false, not_false_eq_true, ite_self, a_try_ok, a_raise0, a_raise, a_h0, a_h1, a_en0, a_en1, a_se_nx, a_se_rt, a_lv0, a_lv1, a_un0, a_un1, a_cx0, a_cx1, a_cx2, a_cx3, a_xf, a_pad, a_walk, a_rev, a_par, a_chain, a_chainB, w_enum, w_zipL, w_zipT, e_max, e_min, e_and, e_sumA, e_sumAT, List.reverse_cons, List.reverse_nil, List.zip_cons_cons, List.zip_nil_left, List.zip_nil_right, a_mIndex, a_fld, a_callT, a_methD, a_make, a_val, a_newD, w_enumL, w_enumT, a_apT, a_apG, a_apL, e_ixG, e_tupF, a_no0, a_no1, e_sliceL, e_sliceT, a_ins, a_cat, e_revL, List.nil_append, List.reverse_nil, subE_BadField_BadField, in_xs_0_BadField, fc_modulus_Field, fc_size_Field, fc_prime_Field, fc_degree_Field, fc_digit_rows_Field, fc_sum_rows_Field, fc_product_rows_Field, fc_negatives_Field, fc_inverses_Field, fc_step_row_Field, subXs_BadField_RankError, subXs_BadField_ValueError, subXs_BadField_BadThing, tf_m_raised_Field_Field, tf_eq_Field, ok1, Int.toNat_natCast, L]
theorem IsF.init (g : IsF q m md) (z : SeqD M (nums md)) : F_Field___init__ [.ins cl_Field [] [], .int q, M] = .ok false .non (fieldD q md m) :=
  fld_init g.h g.hl g.h0 (by have := g.h4; omega) g.h1 (by have := g.hn; omega) g.hi z (g.hf M z)
theorem pl_numsT {l : List Nat} : (D.tup (nums l)).pl 64 = true := pl_intsN l
theorem told_frame (FF FW FP : List D → Rf) {q M fd : D} {ms : List D} {m sz : Int} (i : FF [.ins cl_Field [] [], q, M] = .ok false .non fd)
    (t : dTuple M = some (.val (.tup ms))) (l : dLen M = some (.val (.int ms.length))) (ty : dIsi subIs icIs (.tup ms) (.ty "tuple") = some (.val (.bl true))) (c1 : cNe (.tup ms) (.tup ms) = some false) (c2 : cNe q q = some false)
    (w1 : FW [.int m] = .ok false (.bl true) .non) (w2 : FW [.int sz] = .ok false (.bl true) .non) (pw : FP [q, .int m] = .ok false (.int sz) .non) (e1 : (ms.length : Int) - 1 = m)
    (g1 : dFld fa_modulus "modulus" fd = some (.val (.tup ms))) (g2 : dFld fa_prime "prime" fd = some (.val q)) (g3 : dFld fa_degree "degree" fd = some (.val (.int m))) (g4 : dFld fa_size "size" fd = some (.val (.int sz))) :
    mkF 5 (mSeq (mAsg 2 (mC .non))
  (mSeq (mAsg 3 (mC .non))
  (mSeq (mTry subE (mAsg 3 (mVal (mMake cl_Field FF (mCons (mVar 0) (mCons (mVar 1) mNil))))) [(.cl cl_BadField, some 4, (mAsg 2 (mIf (mAnd (mTest (mIsX subXs 4 (mC (.cl cl_RankError)))) (mAnd (mTest (mIsX subXs 4 (mC (.ty "ValueError")))) (mNot (mTest (mIsX subXs 4 (mC (.cl cl_BadThing))))))) (mXf xs_0 4 "what") (mC (.str "class")))))])
  (mSeq (mIfS (mCmp cIsNot (mVar 2) (mC .non)) (mRet (mVar 2)) mNext)
  (mSeq (mIfS (mOr (mNot (mTest (mCall (fn2 (dIsi subIs icIs)) (mCons (mUn (dFld fa_modulus "modulus") (mVar 3)) (mCons (mC (.ty "tuple")) mNil))))) (mOr (mCmp cNe (mUn (dFld fa_modulus "modulus") (mVar 3)) (mCall (fn1 dTuple) (mCons (mVar 1) mNil))) (mCmp cNe (mUn (dFld fa_prime "prime") (mVar 3)) (mVar 0)))) (mRet (mC (.str "attributes"))) mNext)
  (mSeq (mIfS (mOr (mNot (mTest (mCallF FW (mCons (mUn (dFld fa_degree "degree") (mVar 3)) mNil)))) (mCmp cNe (mUn (dFld fa_degree "degree") (mVar 3)) (mBin dSub (mCall (fn1 dLen) (mCons (mVar 1) mNil)) (mC (.int 1))))) (mRet (mC (.str "degree"))) mNext)
  (mSeq (mIfS (mOr (mNot (mTest (mCallF FW (mCons (mUn (dFld fa_size "size") (mVar 3)) mNil)))) (mCmp cNe (mUn (dFld fa_size "size") (mVar 3)) (mCallF FP (mCons (mVar 0) (mCons (mBin dSub (mCall (fn1 dLen) (mCons (mVar 1) mNil)) (mC (.int 1))) mNil))))) (mRet (mC (.str "number"))) mNext)
  (mRet (mC .non))))))))) [q, M] = .ok false .non .non := by
  simp only [bindR_ok, bindR_ex, a_bind, a_of_some, a_var, a_c, a_bin, a_un, a_test, a_tru, a_cmp, a_and, a_or, a_not, a_if, a_andV, a_orV, a_notV, a_bl, a_nil, a_cons, a_tup, a_lst, a_call, a_callF, a_callIO, a_seq, a_next, a_ret, a_retN, a_drop, a_break, a_cont, a_ifS, a_asg, a_asgG, a_app, a_setI, a_iter, a_rng, a_for, a_slice, a_part0, a_part1, a_lc, a_yes, l_val, l_new, l_slot, f_val, f_new, f_slot, t_val, t_new, t_slot, s_val, s_new, s_slot, a_look2, a_look1, a_fa0, a_fa1, a_la0, a_la1, a_fn1, a_fn2, a_gN, a_gs0, a_gs1, a_gT, a_turn, a_fg0, a_fg1, a_wp0, a_wp1, a_rs0, a_rs1, a_mkF, a_mkIO, a_owL, a_owD, a_tkT, a_tkF, a_apf, a_apb, a_apn, a_aps, e_addI, e_subI, e_mulI, e_divI, e_modI, e_negI, e_lt, e_le, e_gt, e_ge, e_is, e_isnot, a_lift, e_lenL, e_lenT, e_lenS, e_intI, e_intB, e_absI, e_truB, e_truI, e_truN, e_truL, e_truT, e_ixL, e_ixT, e_tupL, e_tupT, e_lstL, e_lstT, e_sum, cEq_int, cNe_int, fin_nx, fin_val, fin_new, fin_slot, fin_ex, finIO_nx, finIO_val, finIO_new, finIO_slot, finIO_ex, entry_eq, entryIO_eq, atI_0, atI_1, atI_2, atI_3, Option.map_some, List.set_cons_zero, List.set_cons_succ, List.getElem?_cons_zero, List.getElem?_cons_succ, List.getElem?_nil, List.getD_cons_zero, List.getD_cons_succ, List.map_cons, List.map_nil, List.length_cons, List.length_nil, List.length_map, List.replicate, List.cons_append, List.nil_append, Nat.reduceAdd, Nat.reduceSub, Nat.reduceLeDiff, Nat.reduceLT, Nat.zero_le, Int.reduceLT, Int.reduceLE, Int.reduceEq, Int.reduceNeg, if_true, if_false, Bool.false_eq_true, Bool.true_eq_false, reduceIte, Bool.or_true, Bool.true_or, Bool.false_or, Bool.or_false, Bool.and_true, Bool.and_false, Bool.true_and, Bool.false_and, Bool.not_true, Bool.not_false, decide_true, decide_false, decide_eq_true_eq, and_self, not_true_eq_false, not_false_eq_true, ite_self, a_try_ok, a_raise0, a_raise, a_h0, a_h1, a_en0, a_en1, a_se_nx, a_se_rt, a_lv0, a_lv1, a_un0, a_un1, a_cx0, a_cx1, a_cx2, a_cx3, a_xf, a_pad, a_walk, a_rev, a_par, a_chain, a_chainB, w_enum, w_zipL, w_zipT, e_max, e_min, e_and, e_sumA, e_sumAT, List.reverse_cons, List.reverse_nil, List.zip_cons_cons, List.zip_nil_left, List.zip_nil_right, a_mIndex, a_fld, a_callT, a_methD, a_make, a_val, a_newD, w_enumL, w_enumT, a_apT, a_apG, a_apL, e_ixG, e_tupF, a_no0, a_no1, e_sliceL, e_sliceT, a_ins, a_cat, e_revL, List.nil_append, List.reverse_nil, subE_BadField_BadField, in_xs_0_BadField, fc_modulus_Field, fc_size_Field, fc_prime_Field, fc_degree_Field, fc_digit_rows_Field, fc_sum_rows_Field, fc_product_rows_Field, fc_negatives_Field, fc_inverses_Field, fc_step_row_Field, subXs_BadField_RankError, subXs_BadField_ValueError, subXs_BadField_BadThing, tf_m_raised_Field_Field, tf_eq_Field, i, g1, g2, g3, g4, t, l, ty, c1, c2, w1, w2, e1, pw, D.isN]
theorem told_good (g : IsF q m md) (z : SeqD M (nums md)) : F__law_told [.int q, M] = .ok false .non .non := by
  have i := g.init z
  have t := z.tup
  have l := z.len
  have ty : dIsi subIs icIs (.tup (nums md)) (.ty "tuple") = some (.val (.bl true)) := rfl
  have c1 : cNe (.tup (nums md)) (.tup (nums md)) = some false := cNe_self pl_numsT
  have w1 : F__law_whole [.int (m : Int)] = .ok false (.bl true) .non := lawwhole_eq rfl
  have w2 : F__law_whole [.int ((q ^ m : Nat) : Int)] = .ok false (.bl true) .non := lawwhole_eq rfl
  have pw := lawpower_eq g.h (m := m) (by have := g.h4; omega) (by have := g.hn; omega)
  have e1 : ((nums md).length : Int) - 1 = (m : Int) := by rw [nums_len, g.hl]; omega
  have g1 : dFld fa_modulus "modulus" (fieldD q md m) = some (.val (.tup (nums md))) := get_modulus_10
  have g2 : dFld fa_prime "prime" (fieldD q md m) = some (.val (.int q)) := get_prime_10
  have g3 : dFld fa_degree "degree" (fieldD q md m) = some (.val (.int m)) := get_degree_10
  have g4 : dFld fa_size "size" (fieldD q md m) = some (.val (.int (q ^ m : Nat))) := get_size_10
  exact told_frame F_Field___init__ F__law_whole F__law_power i t l ty c1 (cNe_self rfl) w1 w2 pw e1 g1 g2 g3 g4
end
/-- what is drawn -/
def Pair (P M : D) : Prop := oddP P ∨ ∃ q : Nat, (q = 2 ∨ q = 3) ∧ P = .int q ∧ (oddM M ∨ ∃ xs, SeqD M xs ∧ xs.length ≤ 6 ∧ ∀ x ∈ xs, plainI x = true)
def Both (P M : D) (w : Str) : Prop := PyData.strOk w = true ∧ F__law_due [P, M] = .ok false (.str w) .non ∧ F__law_told [P, M] = .ok false (.str w) .non
theorem both_of {P M : D} {w : Str} (s : PyData.strOk w = true) (h1 : F_field_fault [P, M] = .ok false (.str w) .non) (h2 : F__law_due [P, M] = .ok false (.str w) .non) : Both P M w := ⟨s, h2, told_bad h1⟩
theorem ok_prime : PyData.strOk "prime" = true := by decide +kernel
theorem ok_modulus : PyData.strOk "modulus" = true := by decide +kernel
theorem ok_size : PyData.strOk "size" = true := by decide +kernel
theorem ok_divisor : PyData.strOk "divisor" = true := by decide +kernel
theorem nums_of {q : Nat} : ∀ {xs : List D}, xs.all (inR 0 ((q : Int) - 1)) = true → ∃ md : List Nat, xs = nums md ∧ ∀ d ∈ md, d < q
  | [], _ => ⟨[], rfl, fun d hd => by cases hd⟩
  | x :: xs, h => by
    rw [List.all_cons, Bool.and_eq_true] at h
    obtain ⟨md, rfl, hm⟩ := nums_of h.2
    cases x with
    | int i =>
      have h1 := h.1
      unfold inR at h1
      rw [Bool.and_eq_true, decide_eq_true_eq, decide_eq_true_eq] at h1
      refine ⟨i.toNat :: md, ?_, ?_⟩
      · rw [nums_cons, Int.toNat_of_nonneg h1.1]
      · intro d hd
        rcases List.mem_cons.mp hd with rfl | hd
        · omega
        · exact hm d hd
    | _ => cases h.1
theorem pair_ok {P M : D} (g : Pair P M) : (∃ w, Both P M w) ∨ ∃ q m md, IsF q m md ∧ P = .int (q : Nat) ∧ SeqD M (nums md) := by
  rcases g with g | ⟨q, h, rfl, g | ⟨xs, z, l6, p⟩⟩
  · exact .inl ⟨_, both_of ok_prime (fault_prime g) (due_prime g)⟩
  · exact .inl ⟨_, both_of ok_modulus (fault_modulus h g) (due_modulus h g)⟩
  by_cases c : xs.length < 2 ∨ 5 < xs.length
  · exact .inl ⟨_, both_of ok_modulus (fault_len h z c) (due_len h z c)⟩
  have c1 : 2 ≤ xs.length := by omega
  have c2 : xs.length ≤ 5 := by omega
  cases a : xs.all (inR 0 ((q : Int) - 1)) with
  | false => exact .inl ⟨_, both_of ok_modulus (fault_digit h z c1 c2 p a) (due_digit h z c1 c2 p a)⟩
  | true =>
    obtain ⟨md, rfl, hd⟩ := nums_of a
    rw [nums_len] at c1 c2
    obtain ⟨k, hk⟩ : ∃ k, md.getLast? = some k := by
      rw [List.getLast?_eq_some_getLast (by intro z; rw [z] at c1; exact absurd c1 (by decide))]; exact ⟨_, rfl⟩
    by_cases k1 : k = 1
    · subst k1
      by_cases n5 : q = 3 ∧ md.length = 5
      · obtain ⟨rfl, n5⟩ := n5
        exact .inl ⟨_, both_of ok_size (fault_size z n5 hd hk) (due_size z n5 hd hk)⟩
      rcases all_mods h c1 c2 hd hk n5 with h1 | h1
      · obtain ⟨m, f⟩ := isF_of h1
        exact .inr ⟨q, m, md, f, rfl, z⟩
      · obtain ⟨a1, a2⟩ := notF_of h1 M z
        exact .inl ⟨_, both_of ok_divisor a1 a2⟩
    · exact .inl ⟨_, both_of ok_modulus (fault_last h z c1 c2 hd hk k1) (due_last h z c1 c2 hd hk k1)⟩
/-! ### the drawing hand -/
def handD (cells : List Int) (place : Nat) (great total : Int) : D := .lst [.lst (cells.map .int), .int place, .int great, .int total]
structure GoodHand (h : D) : Prop where
  ex : ∃ cells place great total, h = handD cells place great total ∧ (∀ c ∈ cells, 0 ≤ c) ∧ place ≤ cells.length ∧ 0 ≤ great ∧ 0 ≤ total ∧ total < 2147483648 ∧ cells.length ≤ 63
theorem mixed_eq {a b : Int} (ha : 0 ≤ a ∧ a < 2147483648) (hb : 0 ≤ b ∧ b ≤ 1000) : ∃ r, F__law_mixed [.int a, .int b] = .ok false (.int r) .non ∧ 0 ≤ r := by
  have e1 : mulOk a 39373 = true := mulOk_le (a := 31) (b := 20) (by omega) (by omega) (by omega)
  have e2 : mulOk b 6151 = true := mulOk_le (a := 31) (b := 20) (by omega) (by omega) (by omega)
  have e3 : mulOk b 81071 = true := mulOk_le (a := 31) (b := 20) (by omega) (by omega) (by omega)
  generalize hx : (a * 39373 + b * 6151 + 50021) % 2147483399 = x
  have x0 : 0 ≤ x ∧ x < 2147483399 := by omega
  have e4 : mulOk x x = true := mulOk_le (a := 31) (b := 31) (by omega) (by omega) (by omega)
  generalize hz : (x * x + b * 81071 + x / 137) % 2147483629 = z
  have z0 : 0 ≤ z ∧ z < 2147483629 := by
    subst hz
    exact ⟨Int.emod_nonneg _ (by decide), Int.emod_lt_of_pos _ (by decide)⟩
  have e5 : mulOk z 62089 = true := mulOk_le (a := 31) (b := 20) (by omega) (by omega) (by omega)
  have d1 : divOk 137 = true := by decide
  have d2 : divOk 11 = true := by decide
  have d3 : divOk 64 = true := by decide
  refine ⟨(z * 62089 + x / 11) % 2147483587 / 64, ?_, by omega⟩
  simp only [F__law_mixed, B__law_mixed, bindR_ok, bindR_ex, a_bind, a_of_some, a_var, a_c, a_bin, a_un, a_test, a_tru, a_cmp, a_and, a_or, a_not, a_if, a_andV, a_orV, a_notV, a_bl, a_nil, a_cons, a_tup, a_lst, a_call, a_callF, a_callIO, a_seq, a_next, a_ret, a_retN, a_drop, a_break, a_cont, a_ifS, a_asg, a_asgG, a_app, a_setI, a_iter, a_rng, a_for, a_slice, a_part0, a_part1, a_lc, a_yes, l_val, l_new, l_slot, f_val, f_new, f_slot, t_val, t_new, t_slot, s_val, s_new, s_slot, a_look2, a_look1, a_fa0, a_fa1, a_la0, a_la1, a_fn1, a_fn2, a_gN, a_gs0, a_gs1, a_gT, a_turn, a_fg0, a_fg1, a_wp0, a_wp1, a_rs0, a_rs1, a_mkF, a_mkIO, a_owL, a_owD, a_tkT, a_tkF, a_apf, a_apb, a_apn, a_aps, e_addI, e_subI, e_mulI, e_divI, e_modI, e_negI, e_lt, e_le, e_gt, e_ge, e_is, e_isnot, a_lift, e_lenL, e_lenT, e_lenS, e_intI, e_intB, e_absI, e_truB, e_truI, e_truN, e_truL, e_truT, e_ixL, e_ixT, e_tupL, e_tupT, e_lstL, e_lstT, e_sum, cEq_int, cNe_int, fin_nx, fin_val, fin_new, fin_slot, fin_ex, finIO_nx, finIO_val, finIO_new, finIO_slot, finIO_ex, entry_eq, entryIO_eq, atI_0, atI_1, atI_2, atI_3, Option.map_some, List.set_cons_zero, List.set_cons_succ, List.getElem?_cons_zero, List.getElem?_cons_succ, List.getElem?_nil, List.getD_cons_zero, List.getD_cons_succ, List.map_cons, List.map_nil, List.length_cons, List.length_nil, List.length_map, List.replicate, List.cons_append, List.nil_append, Nat.reduceAdd, Nat.reduceSub, Nat.reduceLeDiff, Nat.reduceLT, Nat.zero_le, Int.reduceLT, Int.reduceLE, Int.reduceEq, Int.reduceNeg, if_true, if_false, Bool.false_eq_true, Bool.true_eq_false, reduceIte, Bool.or_true, Bool.true_or, Bool.false_or, Bool.or_false, Bool.and_true, Bool.and_false, Bool.true_and, Bool.false_and, Bool.not_true, Bool.not_false, decide_true, decide_false, decide_eq_true_eq, and_self, not_true_eq_false, not_false_eq_true, ite_self, a_try_ok, a_raise0, a_raise, a_h0, a_h1, a_en0, a_en1, a_se_nx, a_se_rt, a_lv0, a_lv1, a_un0, a_un1, a_cx0, a_cx1, a_cx2, a_cx3, a_xf, a_pad, a_walk, a_rev, a_par, a_chain, a_chainB, w_enum, w_zipL, w_zipT, e_max, e_min, e_and, e_sumA, e_sumAT, List.reverse_cons, List.reverse_nil, List.zip_cons_cons, List.zip_nil_left, List.zip_nil_right, a_mIndex, a_fld, a_callT, a_methD, a_make, a_val, a_newD, w_enumL, w_enumT, a_apT, a_apG, a_apL, e_ixG, e_tupF, a_no0, a_no1, e_sliceL, e_sliceT, a_ins, a_cat, e_revL, List.nil_append, List.reverse_nil, subE_BadField_BadField, in_xs_0_BadField, fc_modulus_Field, fc_size_Field, fc_prime_Field, fc_degree_Field, fc_digit_rows_Field, fc_sum_rows_Field, fc_product_rows_Field, fc_negatives_Field, fc_inverses_Field, fc_step_row_Field, subXs_BadField_RankError, subXs_BadField_ValueError, subXs_BadField_BadThing, tf_m_raised_Field_Field, tf_eq_Field, e1, e2, e3, hx, e4, hz, e5, d1, d2, d3]
theorem hand_good (ns : List Int) (h : ns.length ≤ 63) : ∃ d, F__law_hand [.scr ns] = .ok true d .non ∧ GoodHand d := by
  have key := loop_inv (g := gN 3) (junk := [3]) (body := L__law_hand_1) (fun i e => ∃ t cells, 0 ≤ t ∧ t < 2147483648 ∧ cells.length = i ∧ (∀ c ∈ cells, 0 ≤ c) ∧ e = [.sh (.scr ns), .sh (.int t), .ow (.lst (cells.map D.int)), .no]) (ns.map D.int) 0
    (env := [.sh (.scr ns), .sh (.int ((ns.length : Int) + 43)), .ow (.lst []), .no]) (fun i d e hi hp => by
      rw [Nat.zero_add] at hp ⊢
      obtain ⟨t, cells, t0, t1, hc, hp, rfl⟩ := hp
      rw [List.getElem?_map] at hi
      cases z : ns[i]? with
      | none => rw [z] at hi; cases hi
      | some n =>
        rw [z] at hi
        cases hi
        have hin : i < ns.length := (List.getElem?_eq_some_iff.mp z).1
        have e1 : mulOk t 2003 = true := mulOk_le (a := 31) (b := 20) (by omega) (by omega) (by omega)
        have hl : cells.length < lim := by unfold lim; omega
        refine ⟨[.sh (.scr ns), .sh (.int ((t * 2003 + n) % 2147483563)), .ow (.lst ((cells ++ [if n < 0 then -n else n]).map D.int)), .no], ?_, (t * 2003 + n) % 2147483563, cells ++ [if n < 0 then -n else n], Int.emod_nonneg _ (by decide), Int.lt_of_lt_of_le (Int.emod_lt_of_pos _ (by decide)) (by decide), by simp [hc], ?_, rfl⟩
        · simp only [L__law_hand_1, bindR_ok, bindR_ex, a_bind, a_of_some, a_var, a_c, a_bin, a_un, a_test, a_tru, a_cmp, a_and, a_or, a_not, a_if, a_andV, a_orV, a_notV, a_bl, a_nil, a_cons, a_tup, a_lst, a_call, a_callF, a_callIO, a_seq, a_next, a_ret, a_retN, a_drop, a_break, a_cont, a_ifS, a_asg, a_asgG, a_app, a_setI, a_iter, a_rng, a_for, a_slice, a_part0, a_part1, a_lc, a_yes, l_val, l_new, l_slot, f_val, f_new, f_slot, t_val, t_new, t_slot, s_val, s_new, s_slot, a_look2, a_look1, a_fa0, a_fa1, a_la0, a_la1, a_fn1, a_fn2, a_gN, a_gs0, a_gs1, a_gT, a_turn, a_fg0, a_fg1, a_wp0, a_wp1, a_rs0, a_rs1, a_mkF, a_mkIO, a_owL, a_owD, a_tkT, a_tkF, a_apf, a_apb, a_apn, a_aps, e_addI, e_subI, e_mulI, e_divI, e_modI, e_negI, e_lt, e_le, e_gt, e_ge, e_is, e_isnot, a_lift, e_lenL, e_lenT, e_lenS, e_intI, e_intB, e_absI, e_truB, e_truI, e_truN, e_truL, e_truT, e_ixL, e_ixT, e_tupL, e_tupT, e_lstL, e_lstT, e_sum, cEq_int, cNe_int, fin_nx, fin_val, fin_new, fin_slot, fin_ex, finIO_nx, finIO_val, finIO_new, finIO_slot, finIO_ex, entry_eq, entryIO_eq, atI_0, atI_1, atI_2, atI_3, Option.map_some, List.set_cons_zero, List.set_cons_succ, List.getElem?_cons_zero, List.getElem?_cons_succ, List.getElem?_nil, List.getD_cons_zero, List.getD_cons_succ, List.map_cons, List.map_nil, List.length_cons, List.length_nil, List.length_map, List.replicate, List.cons_append, List.nil_append, Nat.reduceAdd, Nat.reduceSub, Nat.reduceLeDiff, Nat.reduceLT, Nat.zero_le, Int.reduceLT, Int.reduceLE, Int.reduceEq, Int.reduceNeg, if_true, if_false, Bool.false_eq_true, Bool.true_eq_false, reduceIte, Bool.or_true, Bool.true_or, Bool.false_or, Bool.or_false, Bool.and_true, Bool.and_false, Bool.true_and, Bool.false_and, Bool.not_true, Bool.not_false, decide_true, decide_false, decide_eq_true_eq, and_self, not_true_eq_false, not_false_eq_true, ite_self, a_try_ok, a_raise0, a_raise, a_h0, a_h1, a_en0, a_en1, a_se_nx, a_se_rt, a_lv0, a_lv1, a_un0, a_un1, a_cx0, a_cx1, a_cx2, a_cx3, a_xf, a_pad, a_walk, a_rev, a_par, a_chain, a_chainB, w_enum, w_zipL, w_zipT, e_max, e_min, e_and, e_sumA, e_sumAT, List.reverse_cons, List.reverse_nil, List.zip_cons_cons, List.zip_nil_left, List.zip_nil_right, a_mIndex, a_fld, a_callT, a_methD, a_make, a_val, a_newD, w_enumL, w_enumT, a_apT, a_apG, a_apL, e_ixG, e_tupF, a_no0, a_no1, e_sliceL, e_sliceT, a_ins, a_cat, e_revL, List.nil_append, List.reverse_nil, subE_BadField_BadField, in_xs_0_BadField, fc_modulus_Field, fc_size_Field, fc_prime_Field, fc_degree_Field, fc_digit_rows_Field, fc_sum_rows_Field, fc_product_rows_Field, fc_negatives_Field, fc_inverses_Field, fc_step_row_Field, subXs_BadField_RankError, subXs_BadField_ValueError, subXs_BadField_BadThing, tf_m_raised_Field_Field, tf_eq_Field, e1, hl, List.map_append]
        · intro c hc
          rw [List.mem_append] at hc
          rcases hc with hc | hc
          · exact hp c hc
          · simp only [List.mem_singleton] at hc
            subst hc
            split <;> omega) ⟨_, [], by omega, by omega, rfl, by simp, rfl⟩
  obtain ⟨e', h1, t, cells, t0, t1, hc, hp, rfl⟩ := key
  refine ⟨handD cells 0 0 t, ?_, ⟨cells, 0, 0, t, rfl, hp, Nat.zero_le _, Int.le_refl _, t0, t1, by rw [hc]; simp; exact h⟩⟩
  simp only [F__law_hand, B__law_hand, bindR_ok, bindR_ex, a_bind, a_of_some, a_var, a_c, a_bin, a_un, a_test, a_tru, a_cmp, a_and, a_or, a_not, a_if, a_andV, a_orV, a_notV, a_bl, a_nil, a_cons, a_tup, a_lst, a_call, a_callF, a_callIO, a_seq, a_next, a_ret, a_retN, a_drop, a_break, a_cont, a_ifS, a_asg, a_asgG, a_app, a_setI, a_iter, a_rng, a_for, a_slice, a_part0, a_part1, a_lc, a_yes, l_val, l_new, l_slot, f_val, f_new, f_slot, t_val, t_new, t_slot, s_val, s_new, s_slot, a_look2, a_look1, a_fa0, a_fa1, a_la0, a_la1, a_fn1, a_fn2, a_gN, a_gs0, a_gs1, a_gT, a_turn, a_fg0, a_fg1, a_wp0, a_wp1, a_rs0, a_rs1, a_mkF, a_mkIO, a_owL, a_owD, a_tkT, a_tkF, a_apf, a_apb, a_apn, a_aps, e_addI, e_subI, e_mulI, e_divI, e_modI, e_negI, e_lt, e_le, e_gt, e_ge, e_is, e_isnot, a_lift, e_lenL, e_lenT, e_lenS, e_intI, e_intB, e_absI, e_truB, e_truI, e_truN, e_truL, e_truT, e_ixL, e_ixT, e_tupL, e_tupT, e_lstL, e_lstT, e_sum, cEq_int, cNe_int, fin_nx, fin_val, fin_new, fin_slot, fin_ex, finIO_nx, finIO_val, finIO_new, finIO_slot, finIO_ex, entry_eq, entryIO_eq, atI_0, atI_1, atI_2, atI_3, Option.map_some, List.set_cons_zero, List.set_cons_succ, List.getElem?_cons_zero, List.getElem?_cons_succ, List.getElem?_nil, List.getD_cons_zero, List.getD_cons_succ, List.map_cons, List.map_nil, List.length_cons, List.length_nil, List.length_map, List.replicate, List.cons_append, List.nil_append, Nat.reduceAdd, Nat.reduceSub, Nat.reduceLeDiff, Nat.reduceLT, Nat.zero_le, Int.reduceLT, Int.reduceLE, Int.reduceEq, Int.reduceNeg, if_true, if_false, Bool.false_eq_true, Bool.true_eq_false, reduceIte, Bool.or_true, Bool.true_or, Bool.false_or, Bool.or_false, Bool.and_true, Bool.and_false, Bool.true_and, Bool.false_and, Bool.not_true, Bool.not_false, decide_true, decide_false, decide_eq_true_eq, and_self, not_true_eq_false, not_false_eq_true, ite_self, a_try_ok, a_raise0, a_raise, a_h0, a_h1, a_en0, a_en1, a_se_nx, a_se_rt, a_lv0, a_lv1, a_un0, a_un1, a_cx0, a_cx1, a_cx2, a_cx3, a_xf, a_pad, a_walk, a_rev, a_par, a_chain, a_chainB, w_enum, w_zipL, w_zipT, e_max, e_min, e_and, e_sumA, e_sumAT, List.reverse_cons, List.reverse_nil, List.zip_cons_cons, List.zip_nil_left, List.zip_nil_right, a_mIndex, a_fld, a_callT, a_methD, a_make, a_val, a_newD, w_enumL, w_enumT, a_apT, a_apG, a_apL, e_ixG, e_tupF, a_no0, a_no1, e_sliceL, e_sliceT, a_ins, a_cat, e_revL, List.nil_append, List.reverse_nil, subE_BadField_BadField, in_xs_0_BadField, fc_modulus_Field, fc_size_Field, fc_prime_Field, fc_degree_Field, fc_digit_rows_Field, fc_sum_rows_Field, fc_product_rows_Field, fc_negatives_Field, fc_inverses_Field, fc_step_row_Field, subXs_BadField_RankError, subXs_BadField_ValueError, subXs_BadField_BadThing, tf_m_raised_Field_Field, tf_eq_Field]
  rw [h1]
  simp only [bindR_ok, bindR_ex, a_bind, a_of_some, a_var, a_c, a_bin, a_un, a_test, a_tru, a_cmp, a_and, a_or, a_not, a_if, a_andV, a_orV, a_notV, a_bl, a_nil, a_cons, a_tup, a_lst, a_call, a_callF, a_callIO, a_seq, a_next, a_ret, a_retN, a_drop, a_break, a_cont, a_ifS, a_asg, a_asgG, a_app, a_setI, a_iter, a_rng, a_for, a_slice, a_part0, a_part1, a_lc, a_yes, l_val, l_new, l_slot, f_val, f_new, f_slot, t_val, t_new, t_slot, s_val, s_new, s_slot, a_look2, a_look1, a_fa0, a_fa1, a_la0, a_la1, a_fn1, a_fn2, a_gN, a_gs0, a_gs1, a_gT, a_turn, a_fg0, a_fg1, a_wp0, a_wp1, a_rs0, a_rs1, a_mkF, a_mkIO, a_owL, a_owD, a_tkT, a_tkF, a_apf, a_apb, a_apn, a_aps, e_addI, e_subI, e_mulI, e_divI, e_modI, e_negI, e_lt, e_le, e_gt, e_ge, e_is, e_isnot, a_lift, e_lenL, e_lenT, e_lenS, e_intI, e_intB, e_absI, e_truB, e_truI, e_truN, e_truL, e_truT, e_ixL, e_ixT, e_tupL, e_tupT, e_lstL, e_lstT, e_sum, cEq_int, cNe_int, fin_nx, fin_val, fin_new, fin_slot, fin_ex, finIO_nx, finIO_val, finIO_new, finIO_slot, finIO_ex, entry_eq, entryIO_eq, atI_0, atI_1, atI_2, atI_3, Option.map_some, List.set_cons_zero, List.set_cons_succ, List.getElem?_cons_zero, List.getElem?_cons_succ, List.getElem?_nil, List.getD_cons_zero, List.getD_cons_succ, List.map_cons, List.map_nil, List.length_cons, List.length_nil, List.length_map, List.replicate, List.cons_append, List.nil_append, Nat.reduceAdd, Nat.reduceSub, Nat.reduceLeDiff, Nat.reduceLT, Nat.zero_le, Int.reduceLT, Int.reduceLE, Int.reduceEq, Int.reduceNeg, if_true, if_false, Bool.false_eq_true, Bool.true_eq_false, reduceIte, Bool.or_true, Bool.true_or, Bool.false_or, Bool.or_false, Bool.and_true, Bool.and_false, Bool.true_and, Bool.false_and, Bool.not_true, Bool.not_false, decide_true, decide_false, decide_eq_true_eq, and_self, not_true_eq_false, not_false_eq_true, ite_self, a_try_ok, a_raise0, a_raise, a_h0, a_h1, a_en0, a_en1, a_se_nx, a_se_rt, a_lv0, a_lv1, a_un0, a_un1, a_cx0, a_cx1, a_cx2, a_cx3, a_xf, a_pad, a_walk, a_rev, a_par, a_chain, a_chainB, w_enum, w_zipL, w_zipT, e_max, e_min, e_and, e_sumA, e_sumAT, List.reverse_cons, List.reverse_nil, List.zip_cons_cons, List.zip_nil_left, List.zip_nil_right, a_mIndex, a_fld, a_callT, a_methD, a_make, a_val, a_newD, w_enumL, w_enumT, a_apT, a_apG, a_apL, e_ixG, e_tupF, a_no0, a_no1, e_sliceL, e_sliceT, a_ins, a_cat, e_revL, List.nil_append, List.reverse_nil, subE_BadField_BadField, in_xs_0_BadField, fc_modulus_Field, fc_size_Field, fc_prime_Field, fc_degree_Field, fc_digit_rows_Field, fc_sum_rows_Field, fc_product_rows_Field, fc_negatives_Field, fc_inverses_Field, fc_step_row_Field, subXs_BadField_RankError, subXs_BadField_ValueError, subXs_BadField_BadThing, tf_m_raised_Field_Field, tf_eq_Field, handD]
  rfl
theorem take_good {h : D} {many : Int} (g : GoodHand h) (m1 : 1 ≤ many) (m2 : divOk many = true) : ∃ r h', F__law_take [h, .int many] = .ok false (.int r) h' ∧ GoodHand h' ∧ 0 ≤ r ∧ r < many := by
  obtain ⟨cells, place, great, total, rfl, hc, hp, hg, ht0, ht1, hl⟩ := g
  have mm : decide (0 < many) = true := decide_eq_true (by omega)
  have rr : ∀ x : Int, 0 ≤ x % many ∧ x % many < many := fun x => ⟨Int.emod_nonneg _ (by omega), Int.emod_lt_of_pos _ (by omega)⟩
  -- the last way: the mixed sum
  have last : great = 0 → ¬ place < cells.length → ∃ r h', F__law_take [handD cells place great total, .int many] = .ok false (.int r) h' ∧ GoodHand h' ∧ 0 ≤ r ∧ r < many := fun z np => by
    subst z
    have t2 : 0 ≤ (total + 1) % 2147483549 ∧ (total + 1) % 2147483549 < 2147483648 := by omega
    obtain ⟨x, hx, x0⟩ := mixed_eq t2 (b := (place : Int)) (by omega)
    refine ⟨x % many, handD cells place 0 ((total + 1) % 2147483549), ?_, ⟨cells, place, 0, _, rfl, hc, hp, Int.le_refl _, t2.1, t2.2, hl⟩, rr x⟩
    simp only [F__law_take, B__law_take, handD, bindR_ok, bindR_ex, a_bind, a_of_some, a_var, a_c, a_bin, a_un, a_test, a_tru, a_cmp, a_and, a_or, a_not, a_if, a_andV, a_orV, a_notV, a_bl, a_nil, a_cons, a_tup, a_lst, a_call, a_callF, a_callIO, a_seq, a_next, a_ret, a_retN, a_drop, a_break, a_cont, a_ifS, a_asg, a_asgG, a_app, a_setI, a_iter, a_rng, a_for, a_slice, a_part0, a_part1, a_lc, a_yes, l_val, l_new, l_slot, f_val, f_new, f_slot, t_val, t_new, t_slot, s_val, s_new, s_slot, a_look2, a_look1, a_fa0, a_fa1, a_la0, a_la1, a_fn1, a_fn2, a_gN, a_gs0, a_gs1, a_gT, a_turn, a_fg0, a_fg1, a_wp0, a_wp1, a_rs0, a_rs1, a_mkF, a_mkIO, a_owL, a_owD, a_tkT, a_tkF, a_apf, a_apb, a_apn, a_aps, e_addI, e_subI, e_mulI, e_divI, e_modI, e_negI, e_lt, e_le, e_gt, e_ge, e_is, e_isnot, a_lift, e_lenL, e_lenT, e_lenS, e_intI, e_intB, e_absI, e_truB, e_truI, e_truN, e_truL, e_truT, e_ixL, e_ixT, e_tupL, e_tupT, e_lstL, e_lstT, e_sum, cEq_int, cNe_int, fin_nx, fin_val, fin_new, fin_slot, fin_ex, finIO_nx, finIO_val, finIO_new, finIO_slot, finIO_ex, entry_eq, entryIO_eq, atI_0, atI_1, atI_2, atI_3, Option.map_some, List.set_cons_zero, List.set_cons_succ, List.getElem?_cons_zero, List.getElem?_cons_succ, List.getElem?_nil, List.getD_cons_zero, List.getD_cons_succ, List.map_cons, List.map_nil, List.length_cons, List.length_nil, List.length_map, List.replicate, List.cons_append, List.nil_append, Nat.reduceAdd, Nat.reduceSub, Nat.reduceLeDiff, Nat.reduceLT, Nat.zero_le, Int.reduceLT, Int.reduceLE, Int.reduceEq, Int.reduceNeg, if_true, if_false, Bool.false_eq_true, Bool.true_eq_false, reduceIte, Bool.or_true, Bool.true_or, Bool.false_or, Bool.or_false, Bool.and_true, Bool.and_false, Bool.true_and, Bool.false_and, Bool.not_true, Bool.not_false, decide_true, decide_false, decide_eq_true_eq, and_self, not_true_eq_false, not_false_eq_true, ite_self, a_try_ok, a_raise0, a_raise, a_h0, a_h1, a_en0, a_en1, a_se_nx, a_se_rt, a_lv0, a_lv1, a_un0, a_un1, a_cx0, a_cx1, a_cx2, a_cx3, a_xf, a_pad, a_walk, a_rev, a_par, a_chain, a_chainB, w_enum, w_zipL, w_zipT, e_max, e_min, e_and, e_sumA, e_sumAT, List.reverse_cons, List.reverse_nil, List.zip_cons_cons, List.zip_nil_left, List.zip_nil_right, a_mIndex, a_fld, a_callT, a_methD, a_make, a_val, a_newD, w_enumL, w_enumT, a_apT, a_apG, a_apL, e_ixG, e_tupF, a_no0, a_no1, e_sliceL, e_sliceT, a_ins, a_cat, e_revL, List.nil_append, List.reverse_nil, subE_BadField_BadField, in_xs_0_BadField, fc_modulus_Field, fc_size_Field, fc_prime_Field, fc_degree_Field, fc_digit_rows_Field, fc_sum_rows_Field, fc_product_rows_Field, fc_negatives_Field, fc_inverses_Field, fc_step_row_Field, subXs_BadField_RankError, subXs_BadField_ValueError, subXs_BadField_BadThing, tf_m_raised_Field_Field, tf_eq_Field, show ¬ ((place : Int) < (cells.length : Int)) from by omega, ixN_3 (show 3 < 4 by decide), hx, show 0 < many from by omega]
  -- a great number, taken digit by digit
  have great_go : 0 < great → ∃ r h', F__law_take [handD cells place great total, .int many] = .ok false (.int r) h' ∧ GoodHand h' ∧ 0 ≤ r ∧ r < many := fun z => by
    have g0 : 0 ≤ great / many := Int.ediv_nonneg hg (by omega)
    refine ⟨great % many, handD cells place (great / many) total, ?_, ⟨cells, place, _, _, rfl, hc, hp, g0, ht0, ht1, hl⟩, rr great⟩
    simp only [F__law_take, B__law_take, handD, bindR_ok, bindR_ex, a_bind, a_of_some, a_var, a_c, a_bin, a_un, a_test, a_tru, a_cmp, a_and, a_or, a_not, a_if, a_andV, a_orV, a_notV, a_bl, a_nil, a_cons, a_tup, a_lst, a_call, a_callF, a_callIO, a_seq, a_next, a_ret, a_retN, a_drop, a_break, a_cont, a_ifS, a_asg, a_asgG, a_app, a_setI, a_iter, a_rng, a_for, a_slice, a_part0, a_part1, a_lc, a_yes, l_val, l_new, l_slot, f_val, f_new, f_slot, t_val, t_new, t_slot, s_val, s_new, s_slot, a_look2, a_look1, a_fa0, a_fa1, a_la0, a_la1, a_fn1, a_fn2, a_gN, a_gs0, a_gs1, a_gT, a_turn, a_fg0, a_fg1, a_wp0, a_wp1, a_rs0, a_rs1, a_mkF, a_mkIO, a_owL, a_owD, a_tkT, a_tkF, a_apf, a_apb, a_apn, a_aps, e_addI, e_subI, e_mulI, e_divI, e_modI, e_negI, e_lt, e_le, e_gt, e_ge, e_is, e_isnot, a_lift, e_lenL, e_lenT, e_lenS, e_intI, e_intB, e_absI, e_truB, e_truI, e_truN, e_truL, e_truT, e_ixL, e_ixT, e_tupL, e_tupT, e_lstL, e_lstT, e_sum, cEq_int, cNe_int, fin_nx, fin_val, fin_new, fin_slot, fin_ex, finIO_nx, finIO_val, finIO_new, finIO_slot, finIO_ex, entry_eq, entryIO_eq, atI_0, atI_1, atI_2, atI_3, Option.map_some, List.set_cons_zero, List.set_cons_succ, List.getElem?_cons_zero, List.getElem?_cons_succ, List.getElem?_nil, List.getD_cons_zero, List.getD_cons_succ, List.map_cons, List.map_nil, List.length_cons, List.length_nil, List.length_map, List.replicate, List.cons_append, List.nil_append, Nat.reduceAdd, Nat.reduceSub, Nat.reduceLeDiff, Nat.reduceLT, Nat.zero_le, Int.reduceLT, Int.reduceLE, Int.reduceEq, Int.reduceNeg, if_true, if_false, Bool.false_eq_true, Bool.true_eq_false, reduceIte, Bool.or_true, Bool.true_or, Bool.false_or, Bool.or_false, Bool.and_true, Bool.and_false, Bool.true_and, Bool.false_and, Bool.not_true, Bool.not_false, decide_true, decide_false, decide_eq_true_eq, and_self, not_true_eq_false, not_false_eq_true, ite_self, a_try_ok, a_raise0, a_raise, a_h0, a_h1, a_en0, a_en1, a_se_nx, a_se_rt, a_lv0, a_lv1, a_un0, a_un1, a_cx0, a_cx1, a_cx2, a_cx3, a_xf, a_pad, a_walk, a_rev, a_par, a_chain, a_chainB, w_enum, w_zipL, w_zipT, e_max, e_min, e_and, e_sumA, e_sumAT, List.reverse_cons, List.reverse_nil, List.zip_cons_cons, List.zip_nil_left, List.zip_nil_right, a_mIndex, a_fld, a_callT, a_methD, a_make, a_val, a_newD, w_enumL, w_enumT, a_apT, a_apG, a_apL, e_ixG, e_tupF, a_no0, a_no1, e_sliceL, e_sliceT, a_ins, a_cat, e_revL, List.nil_append, List.reverse_nil, subE_BadField_BadField, in_xs_0_BadField, fc_modulus_Field, fc_size_Field, fc_prime_Field, fc_degree_Field, fc_digit_rows_Field, fc_sum_rows_Field, fc_product_rows_Field, fc_negatives_Field, fc_inverses_Field, fc_step_row_Field, subXs_BadField_RankError, subXs_BadField_ValueError, subXs_BadField_BadThing, tf_m_raised_Field_Field, tf_eq_Field, show ¬ great = 0 from by omega, z, ixN_2 (show 2 < 4 by decide), m2, show 0 < many from by omega]
  rcases Int.lt_or_eq_of_le hg with z | z
  · exact great_go z
  · by_cases np : place < cells.length
    · have hcell : cells[place]? = some cells[place] := List.getElem?_eq_getElem np
      have c0 : 0 ≤ cells[place] := hc _ (List.getElem_mem np)
      have at1 : atI (cells.map D.int) (place : Int) = some (.int cells[place]) := atI_nat (by rw [List.getElem?_map, hcell]; rfl)
      have p18 : dPow (.int 10) (.int 18) = some (.val (.int 1000000000000000000)) := rfl
      subst z
      by_cases big : cells[place] < 1000000000000000000
      · obtain ⟨x, hx, x0⟩ := mixed_eq (a := cells[place] % 2147483399) (by omega) (b := (place : Int) + 1) (by omega)
        refine ⟨x % many, handD cells (place + 1) 0 total, ?_, ⟨cells, place + 1, 0, _, rfl, hc, by omega, Int.le_refl _, ht0, ht1, hl⟩, rr x⟩
        simp only [F__law_take, B__law_take, handD, bindR_ok, bindR_ex, a_bind, a_of_some, a_var, a_c, a_bin, a_un, a_test, a_tru, a_cmp, a_and, a_or, a_not, a_if, a_andV, a_orV, a_notV, a_bl, a_nil, a_cons, a_tup, a_lst, a_call, a_callF, a_callIO, a_seq, a_next, a_ret, a_retN, a_drop, a_break, a_cont, a_ifS, a_asg, a_asgG, a_app, a_setI, a_iter, a_rng, a_for, a_slice, a_part0, a_part1, a_lc, a_yes, l_val, l_new, l_slot, f_val, f_new, f_slot, t_val, t_new, t_slot, s_val, s_new, s_slot, a_look2, a_look1, a_fa0, a_fa1, a_la0, a_la1, a_fn1, a_fn2, a_gN, a_gs0, a_gs1, a_gT, a_turn, a_fg0, a_fg1, a_wp0, a_wp1, a_rs0, a_rs1, a_mkF, a_mkIO, a_owL, a_owD, a_tkT, a_tkF, a_apf, a_apb, a_apn, a_aps, e_addI, e_subI, e_mulI, e_divI, e_modI, e_negI, e_lt, e_le, e_gt, e_ge, e_is, e_isnot, a_lift, e_lenL, e_lenT, e_lenS, e_intI, e_intB, e_absI, e_truB, e_truI, e_truN, e_truL, e_truT, e_ixL, e_ixT, e_tupL, e_tupT, e_lstL, e_lstT, e_sum, cEq_int, cNe_int, fin_nx, fin_val, fin_new, fin_slot, fin_ex, finIO_nx, finIO_val, finIO_new, finIO_slot, finIO_ex, entry_eq, entryIO_eq, atI_0, atI_1, atI_2, atI_3, Option.map_some, List.set_cons_zero, List.set_cons_succ, List.getElem?_cons_zero, List.getElem?_cons_succ, List.getElem?_nil, List.getD_cons_zero, List.getD_cons_succ, List.map_cons, List.map_nil, List.length_cons, List.length_nil, List.length_map, List.replicate, List.cons_append, List.nil_append, Nat.reduceAdd, Nat.reduceSub, Nat.reduceLeDiff, Nat.reduceLT, Nat.zero_le, Int.reduceLT, Int.reduceLE, Int.reduceEq, Int.reduceNeg, if_true, if_false, Bool.false_eq_true, Bool.true_eq_false, reduceIte, Bool.or_true, Bool.true_or, Bool.false_or, Bool.or_false, Bool.and_true, Bool.and_false, Bool.true_and, Bool.false_and, Bool.not_true, Bool.not_false, decide_true, decide_false, decide_eq_true_eq, and_self, not_true_eq_false, not_false_eq_true, ite_self, a_try_ok, a_raise0, a_raise, a_h0, a_h1, a_en0, a_en1, a_se_nx, a_se_rt, a_lv0, a_lv1, a_un0, a_un1, a_cx0, a_cx1, a_cx2, a_cx3, a_xf, a_pad, a_walk, a_rev, a_par, a_chain, a_chainB, w_enum, w_zipL, w_zipT, e_max, e_min, e_and, e_sumA, e_sumAT, List.reverse_cons, List.reverse_nil, List.zip_cons_cons, List.zip_nil_left, List.zip_nil_right, a_mIndex, a_fld, a_callT, a_methD, a_make, a_val, a_newD, w_enumL, w_enumT, a_apT, a_apG, a_apL, e_ixG, e_tupF, a_no0, a_no1, e_sliceL, e_sliceT, a_ins, a_cat, e_revL, List.nil_append, List.reverse_nil, subE_BadField_BadField, in_xs_0_BadField, fc_modulus_Field, fc_size_Field, fc_prime_Field, fc_degree_Field, fc_digit_rows_Field, fc_sum_rows_Field, fc_product_rows_Field, fc_negatives_Field, fc_inverses_Field, fc_step_row_Field, subXs_BadField_RankError, subXs_BadField_ValueError, subXs_BadField_BadThing, tf_m_raised_Field_Field, tf_eq_Field, show ((place : Int) < (cells.length : Int)) from by omega, at1, ixN_1 (show 1 < 4 by decide), p18, big, hx, show 0 < many from by omega]
        rfl
      · have g0 : 0 ≤ cells[place] / many := Int.ediv_nonneg c0 (by omega)
        refine ⟨cells[place] % many, handD cells (place + 1) (cells[place] / many) total, ?_, ⟨cells, place + 1, _, _, rfl, hc, by omega, g0, ht0, ht1, hl⟩, rr _⟩
        simp only [F__law_take, B__law_take, handD, bindR_ok, bindR_ex, a_bind, a_of_some, a_var, a_c, a_bin, a_un, a_test, a_tru, a_cmp, a_and, a_or, a_not, a_if, a_andV, a_orV, a_notV, a_bl, a_nil, a_cons, a_tup, a_lst, a_call, a_callF, a_callIO, a_seq, a_next, a_ret, a_retN, a_drop, a_break, a_cont, a_ifS, a_asg, a_asgG, a_app, a_setI, a_iter, a_rng, a_for, a_slice, a_part0, a_part1, a_lc, a_yes, l_val, l_new, l_slot, f_val, f_new, f_slot, t_val, t_new, t_slot, s_val, s_new, s_slot, a_look2, a_look1, a_fa0, a_fa1, a_la0, a_la1, a_fn1, a_fn2, a_gN, a_gs0, a_gs1, a_gT, a_turn, a_fg0, a_fg1, a_wp0, a_wp1, a_rs0, a_rs1, a_mkF, a_mkIO, a_owL, a_owD, a_tkT, a_tkF, a_apf, a_apb, a_apn, a_aps, e_addI, e_subI, e_mulI, e_divI, e_modI, e_negI, e_lt, e_le, e_gt, e_ge, e_is, e_isnot, a_lift, e_lenL, e_lenT, e_lenS, e_intI, e_intB, e_absI, e_truB, e_truI, e_truN, e_truL, e_truT, e_ixL, e_ixT, e_tupL, e_tupT, e_lstL, e_lstT, e_sum, cEq_int, cNe_int, fin_nx, fin_val, fin_new, fin_slot, fin_ex, finIO_nx, finIO_val, finIO_new, finIO_slot, finIO_ex, entry_eq, entryIO_eq, atI_0, atI_1, atI_2, atI_3, Option.map_some, List.set_cons_zero, List.set_cons_succ, List.getElem?_cons_zero, List.getElem?_cons_succ, List.getElem?_nil, List.getD_cons_zero, List.getD_cons_succ, List.map_cons, List.map_nil, List.length_cons, List.length_nil, List.length_map, List.replicate, List.cons_append, List.nil_append, Nat.reduceAdd, Nat.reduceSub, Nat.reduceLeDiff, Nat.reduceLT, Nat.zero_le, Int.reduceLT, Int.reduceLE, Int.reduceEq, Int.reduceNeg, if_true, if_false, Bool.false_eq_true, Bool.true_eq_false, reduceIte, Bool.or_true, Bool.true_or, Bool.false_or, Bool.or_false, Bool.and_true, Bool.and_false, Bool.true_and, Bool.false_and, Bool.not_true, Bool.not_false, decide_true, decide_false, decide_eq_true_eq, and_self, not_true_eq_false, not_false_eq_true, ite_self, a_try_ok, a_raise0, a_raise, a_h0, a_h1, a_en0, a_en1, a_se_nx, a_se_rt, a_lv0, a_lv1, a_un0, a_un1, a_cx0, a_cx1, a_cx2, a_cx3, a_xf, a_pad, a_walk, a_rev, a_par, a_chain, a_chainB, w_enum, w_zipL, w_zipT, e_max, e_min, e_and, e_sumA, e_sumAT, List.reverse_cons, List.reverse_nil, List.zip_cons_cons, List.zip_nil_left, List.zip_nil_right, a_mIndex, a_fld, a_callT, a_methD, a_make, a_val, a_newD, w_enumL, w_enumT, a_apT, a_apG, a_apL, e_ixG, e_tupF, a_no0, a_no1, e_sliceL, e_sliceT, a_ins, a_cat, e_revL, List.nil_append, List.reverse_nil, subE_BadField_BadField, in_xs_0_BadField, fc_modulus_Field, fc_size_Field, fc_prime_Field, fc_degree_Field, fc_digit_rows_Field, fc_sum_rows_Field, fc_product_rows_Field, fc_negatives_Field, fc_inverses_Field, fc_step_row_Field, subXs_BadField_RankError, subXs_BadField_ValueError, subXs_BadField_BadThing, tf_m_raised_Field_Field, tf_eq_Field, show ((place : Int) < (cells.length : Int)) from by omega, at1, ixN_1 (show 1 < 4 by decide), ixN_2 (show 2 < 4 by decide), p18, big, show 0 < cells[place] from by omega, m2, show 0 < many from by omega]
        rfl
    · exact last z.symm np

/-! ### what is drawn -/
def MENU : List D := [.tup [.int 2, .int 3], .tup [.int 2, .int 2], .tup [.int 3, .int 2], .tup [.int 2, .int 4], .tup [.int 2, .int 3], .tup [.int 3, .int 2], .tup [.int 3, .int 3], .tup [.int 2, .int 2], .tup [.int 2, .int 4], .tup [.int 2, .int 3], .tup [.int 3, .int 2], .tup [.int 2, .int 4], .tup [.int 2, .int 3], .tup [.int 3, .int 3], .tup [.int 2, .int 1], .tup [.int 3, .int 1]]
def MENUI : List (Int × Int) := [(2, 3), (2, 2), (3, 2), (2, 4), (2, 3), (3, 2), (3, 3), (2, 2), (2, 4), (2, 3), (3, 2), (2, 4), (2, 3), (3, 3), (2, 1), (3, 1)]
theorem menu_lc {h M2 : D} : mLcLoop (gN 7) [7] (mCmp cLe (mBin dIx (mVar 7) (mC (.int 1))) (mVar 1)) L__law_figure_1 MENU [] [.ow h, .sh (.int 4), .sh M2, .no, .no, .no, .no, .no] = .ok MENU [.ow h, .sh (.int 4), .sh M2, .no, .no, .no, .no, .no] := by
  exact lc_map (fun p : Int × Int => .tup [.int p.1, .int p.2]) (fun p : Int × Int => .tup [.int p.1, .int p.2]) MENUI [] (by decide) fun a ha => by
    have h4 : a.2 ≤ 4 := by
      have : (MENUI.all fun a => decide (a.2 ≤ 4)) = true := by decide
      exact of_decide_eq_true (List.all_eq_true.mp this a ha)
    refine ⟨[.ow h, .sh (.int 4), .sh M2, .no, .no, .no, .no, .sh (.tup [.int a.1, .int a.2])], [.ow h, .sh (.int 4), .sh M2, .no, .no, .no, .no, .sh (.tup [.int a.1, .int a.2])], .slot 7, [.ow h, .sh (.int 4), .sh M2, .no, .no, .no, .no, .sh (.tup [.int a.1, .int a.2])], [.ow h, .sh (.int 4), .sh M2, .no, .no, .no, .no, .sh (.tup [.int a.1, .int a.2])], ?_, ?_, ?_, ?_, rfl⟩
    · simp only [bindR_ok, bindR_ex, a_bind, a_of_some, a_var, a_c, a_bin, a_un, a_test, a_tru, a_cmp, a_and, a_or, a_not, a_if, a_andV, a_orV, a_notV, a_bl, a_nil, a_cons, a_tup, a_lst, a_call, a_callF, a_callIO, a_seq, a_next, a_ret, a_retN, a_drop, a_break, a_cont, a_ifS, a_asg, a_asgG, a_app, a_setI, a_iter, a_rng, a_for, a_slice, a_part0, a_part1, a_lc, a_yes, l_val, l_new, l_slot, f_val, f_new, f_slot, t_val, t_new, t_slot, s_val, s_new, s_slot, a_look2, a_look1, a_fa0, a_fa1, a_la0, a_la1, a_fn1, a_fn2, a_gN, a_gs0, a_gs1, a_gT, a_turn, a_fg0, a_fg1, a_wp0, a_wp1, a_rs0, a_rs1, a_mkF, a_mkIO, a_owL, a_owD, a_tkT, a_tkF, a_apf, a_apb, a_apn, a_aps, e_addI, e_subI, e_mulI, e_divI, e_modI, e_negI, e_lt, e_le, e_gt, e_ge, e_is, e_isnot, a_lift, e_lenL, e_lenT, e_lenS, e_intI, e_intB, e_absI, e_truB, e_truI, e_truN, e_truL, e_truT, e_ixL, e_ixT, e_tupL, e_tupT, e_lstL, e_lstT, e_sum, cEq_int, cNe_int, fin_nx, fin_val, fin_new, fin_slot, fin_ex, finIO_nx, finIO_val, finIO_new, finIO_slot, finIO_ex, entry_eq, entryIO_eq, atI_0, atI_1, atI_2, atI_3, Option.map_some, List.set_cons_zero, List.set_cons_succ, List.getElem?_cons_zero, List.getElem?_cons_succ, List.getElem?_nil, List.getD_cons_zero, List.getD_cons_succ, List.map_cons, List.map_nil, List.length_cons, List.length_nil, List.length_map, List.replicate, List.cons_append, List.nil_append, Nat.reduceAdd, Nat.reduceSub, Nat.reduceLeDiff, Nat.reduceLT, Nat.zero_le, Int.reduceLT, Int.reduceLE, Int.reduceEq, Int.reduceNeg, if_true, if_false, Bool.false_eq_true, Bool.true_eq_false, reduceIte, Bool.or_true, Bool.true_or, Bool.false_or, Bool.or_false, Bool.and_true, Bool.and_false, Bool.true_and, Bool.false_and, Bool.not_true, Bool.not_false, decide_true, decide_false, decide_eq_true_eq, and_self, not_true_eq_false, not_false_eq_true, ite_self, a_try_ok, a_raise0, a_raise, a_h0, a_h1, a_en0, a_en1, a_se_nx, a_se_rt, a_lv0, a_lv1, a_un0, a_un1, a_cx0, a_cx1, a_cx2, a_cx3, a_xf, a_pad, a_walk, a_rev, a_par, a_chain, a_chainB, w_enum, w_zipL, w_zipT, e_max, e_min, e_and, e_sumA, e_sumAT, List.reverse_cons, List.reverse_nil, List.zip_cons_cons, List.zip_nil_left, List.zip_nil_right, a_mIndex, a_fld, a_callT, a_methD, a_make, a_val, a_newD, w_enumL, w_enumT, a_apT, a_apG, a_apL, e_ixG, e_tupF, a_no0, a_no1, e_sliceL, e_sliceT, a_ins, a_cat, e_revL, List.nil_append, List.reverse_nil, subE_BadField_BadField, in_xs_0_BadField, fc_modulus_Field, fc_size_Field, fc_prime_Field, fc_degree_Field, fc_digit_rows_Field, fc_sum_rows_Field, fc_product_rows_Field, fc_negatives_Field, fc_inverses_Field, fc_step_row_Field, subXs_BadField_RankError, subXs_BadField_ValueError, subXs_BadField_BadThing, tf_m_raised_Field_Field, tf_eq_Field]
    · simp only [bindR_ok, bindR_ex, a_bind, a_of_some, a_var, a_c, a_bin, a_un, a_test, a_tru, a_cmp, a_and, a_or, a_not, a_if, a_andV, a_orV, a_notV, a_bl, a_nil, a_cons, a_tup, a_lst, a_call, a_callF, a_callIO, a_seq, a_next, a_ret, a_retN, a_drop, a_break, a_cont, a_ifS, a_asg, a_asgG, a_app, a_setI, a_iter, a_rng, a_for, a_slice, a_part0, a_part1, a_lc, a_yes, l_val, l_new, l_slot, f_val, f_new, f_slot, t_val, t_new, t_slot, s_val, s_new, s_slot, a_look2, a_look1, a_fa0, a_fa1, a_la0, a_la1, a_fn1, a_fn2, a_gN, a_gs0, a_gs1, a_gT, a_turn, a_fg0, a_fg1, a_wp0, a_wp1, a_rs0, a_rs1, a_mkF, a_mkIO, a_owL, a_owD, a_tkT, a_tkF, a_apf, a_apb, a_apn, a_aps, e_addI, e_subI, e_mulI, e_divI, e_modI, e_negI, e_lt, e_le, e_gt, e_ge, e_is, e_isnot, a_lift, e_lenL, e_lenT, e_lenS, e_intI, e_intB, e_absI, e_truB, e_truI, e_truN, e_truL, e_truT, e_ixL, e_ixT, e_tupL, e_tupT, e_lstL, e_lstT, e_sum, cEq_int, cNe_int, fin_nx, fin_val, fin_new, fin_slot, fin_ex, finIO_nx, finIO_val, finIO_new, finIO_slot, finIO_ex, entry_eq, entryIO_eq, atI_0, atI_1, atI_2, atI_3, Option.map_some, List.set_cons_zero, List.set_cons_succ, List.getElem?_cons_zero, List.getElem?_cons_succ, List.getElem?_nil, List.getD_cons_zero, List.getD_cons_succ, List.map_cons, List.map_nil, List.length_cons, List.length_nil, List.length_map, List.replicate, List.cons_append, List.nil_append, Nat.reduceAdd, Nat.reduceSub, Nat.reduceLeDiff, Nat.reduceLT, Nat.zero_le, Int.reduceLT, Int.reduceLE, Int.reduceEq, Int.reduceNeg, if_true, if_false, Bool.false_eq_true, Bool.true_eq_false, reduceIte, Bool.or_true, Bool.true_or, Bool.false_or, Bool.or_false, Bool.and_true, Bool.and_false, Bool.true_and, Bool.false_and, Bool.not_true, Bool.not_false, decide_true, decide_false, decide_eq_true_eq, and_self, not_true_eq_false, not_false_eq_true, ite_self, a_try_ok, a_raise0, a_raise, a_h0, a_h1, a_en0, a_en1, a_se_nx, a_se_rt, a_lv0, a_lv1, a_un0, a_un1, a_cx0, a_cx1, a_cx2, a_cx3, a_xf, a_pad, a_walk, a_rev, a_par, a_chain, a_chainB, w_enum, w_zipL, w_zipT, e_max, e_min, e_and, e_sumA, e_sumAT, List.reverse_cons, List.reverse_nil, List.zip_cons_cons, List.zip_nil_left, List.zip_nil_right, a_mIndex, a_fld, a_callT, a_methD, a_make, a_val, a_newD, w_enumL, w_enumT, a_apT, a_apG, a_apL, e_ixG, e_tupF, a_no0, a_no1, e_sliceL, e_sliceT, a_ins, a_cat, e_revL, List.nil_append, List.reverse_nil, subE_BadField_BadField, in_xs_0_BadField, fc_modulus_Field, fc_size_Field, fc_prime_Field, fc_degree_Field, fc_digit_rows_Field, fc_sum_rows_Field, fc_product_rows_Field, fc_negatives_Field, fc_inverses_Field, fc_step_row_Field, subXs_BadField_RankError, subXs_BadField_ValueError, subXs_BadField_BadThing, tf_m_raised_Field_Field, tf_eq_Field, h4]
    · simp only [L__law_figure_1, bindR_ok, bindR_ex, a_bind, a_of_some, a_var, a_c, a_bin, a_un, a_test, a_tru, a_cmp, a_and, a_or, a_not, a_if, a_andV, a_orV, a_notV, a_bl, a_nil, a_cons, a_tup, a_lst, a_call, a_callF, a_callIO, a_seq, a_next, a_ret, a_retN, a_drop, a_break, a_cont, a_ifS, a_asg, a_asgG, a_app, a_setI, a_iter, a_rng, a_for, a_slice, a_part0, a_part1, a_lc, a_yes, l_val, l_new, l_slot, f_val, f_new, f_slot, t_val, t_new, t_slot, s_val, s_new, s_slot, a_look2, a_look1, a_fa0, a_fa1, a_la0, a_la1, a_fn1, a_fn2, a_gN, a_gs0, a_gs1, a_gT, a_turn, a_fg0, a_fg1, a_wp0, a_wp1, a_rs0, a_rs1, a_mkF, a_mkIO, a_owL, a_owD, a_tkT, a_tkF, a_apf, a_apb, a_apn, a_aps, e_addI, e_subI, e_mulI, e_divI, e_modI, e_negI, e_lt, e_le, e_gt, e_ge, e_is, e_isnot, a_lift, e_lenL, e_lenT, e_lenS, e_intI, e_intB, e_absI, e_truB, e_truI, e_truN, e_truL, e_truT, e_ixL, e_ixT, e_tupL, e_tupT, e_lstL, e_lstT, e_sum, cEq_int, cNe_int, fin_nx, fin_val, fin_new, fin_slot, fin_ex, finIO_nx, finIO_val, finIO_new, finIO_slot, finIO_ex, entry_eq, entryIO_eq, atI_0, atI_1, atI_2, atI_3, Option.map_some, List.set_cons_zero, List.set_cons_succ, List.getElem?_cons_zero, List.getElem?_cons_succ, List.getElem?_nil, List.getD_cons_zero, List.getD_cons_succ, List.map_cons, List.map_nil, List.length_cons, List.length_nil, List.length_map, List.replicate, List.cons_append, List.nil_append, Nat.reduceAdd, Nat.reduceSub, Nat.reduceLeDiff, Nat.reduceLT, Nat.zero_le, Int.reduceLT, Int.reduceLE, Int.reduceEq, Int.reduceNeg, if_true, if_false, Bool.false_eq_true, Bool.true_eq_false, reduceIte, Bool.or_true, Bool.true_or, Bool.false_or, Bool.or_false, Bool.and_true, Bool.and_false, Bool.true_and, Bool.false_and, Bool.not_true, Bool.not_false, decide_true, decide_false, decide_eq_true_eq, and_self, not_true_eq_false, not_false_eq_true, ite_self, a_try_ok, a_raise0, a_raise, a_h0, a_h1, a_en0, a_en1, a_se_nx, a_se_rt, a_lv0, a_lv1, a_un0, a_un1, a_cx0, a_cx1, a_cx2, a_cx3, a_xf, a_pad, a_walk, a_rev, a_par, a_chain, a_chainB, w_enum, w_zipL, w_zipT, e_max, e_min, e_and, e_sumA, e_sumAT, List.reverse_cons, List.reverse_nil, List.zip_cons_cons, List.zip_nil_left, List.zip_nil_right, a_mIndex, a_fld, a_callT, a_methD, a_make, a_val, a_newD, w_enumL, w_enumT, a_apT, a_apG, a_apL, e_ixG, e_tupF, a_no0, a_no1, e_sliceL, e_sliceT, a_ins, a_cat, e_revL, List.nil_append, List.reverse_nil, subE_BadField_BadField, in_xs_0_BadField, fc_modulus_Field, fc_size_Field, fc_prime_Field, fc_degree_Field, fc_digit_rows_Field, fc_sum_rows_Field, fc_product_rows_Field, fc_negatives_Field, fc_inverses_Field, fc_step_row_Field, subXs_BadField_RankError, subXs_BadField_ValueError, subXs_BadField_BadThing, tf_m_raised_Field_Field, tf_eq_Field]
    · simp only [bindR_ok, bindR_ex, a_bind, a_of_some, a_var, a_c, a_bin, a_un, a_test, a_tru, a_cmp, a_and, a_or, a_not, a_if, a_andV, a_orV, a_notV, a_bl, a_nil, a_cons, a_tup, a_lst, a_call, a_callF, a_callIO, a_seq, a_next, a_ret, a_retN, a_drop, a_break, a_cont, a_ifS, a_asg, a_asgG, a_app, a_setI, a_iter, a_rng, a_for, a_slice, a_part0, a_part1, a_lc, a_yes, l_val, l_new, l_slot, f_val, f_new, f_slot, t_val, t_new, t_slot, s_val, s_new, s_slot, a_look2, a_look1, a_fa0, a_fa1, a_la0, a_la1, a_fn1, a_fn2, a_gN, a_gs0, a_gs1, a_gT, a_turn, a_fg0, a_fg1, a_wp0, a_wp1, a_rs0, a_rs1, a_mkF, a_mkIO, a_owL, a_owD, a_tkT, a_tkF, a_apf, a_apb, a_apn, a_aps, e_addI, e_subI, e_mulI, e_divI, e_modI, e_negI, e_lt, e_le, e_gt, e_ge, e_is, e_isnot, a_lift, e_lenL, e_lenT, e_lenS, e_intI, e_intB, e_absI, e_truB, e_truI, e_truN, e_truL, e_truT, e_ixL, e_ixT, e_tupL, e_tupT, e_lstL, e_lstT, e_sum, cEq_int, cNe_int, fin_nx, fin_val, fin_new, fin_slot, fin_ex, finIO_nx, finIO_val, finIO_new, finIO_slot, finIO_ex, entry_eq, entryIO_eq, atI_0, atI_1, atI_2, atI_3, Option.map_some, List.set_cons_zero, List.set_cons_succ, List.getElem?_cons_zero, List.getElem?_cons_succ, List.getElem?_nil, List.getD_cons_zero, List.getD_cons_succ, List.map_cons, List.map_nil, List.length_cons, List.length_nil, List.length_map, List.replicate, List.cons_append, List.nil_append, Nat.reduceAdd, Nat.reduceSub, Nat.reduceLeDiff, Nat.reduceLT, Nat.zero_le, Int.reduceLT, Int.reduceLE, Int.reduceEq, Int.reduceNeg, if_true, if_false, Bool.false_eq_true, Bool.true_eq_false, reduceIte, Bool.or_true, Bool.true_or, Bool.false_or, Bool.or_false, Bool.and_true, Bool.and_false, Bool.true_and, Bool.false_and, Bool.not_true, Bool.not_false, decide_true, decide_false, decide_eq_true_eq, and_self, not_true_eq_false, not_false_eq_true, ite_self, a_try_ok, a_raise0, a_raise, a_h0, a_h1, a_en0, a_en1, a_se_nx, a_se_rt, a_lv0, a_lv1, a_un0, a_un1, a_cx0, a_cx1, a_cx2, a_cx3, a_xf, a_pad, a_walk, a_rev, a_par, a_chain, a_chainB, w_enum, w_zipL, w_zipT, e_max, e_min, e_and, e_sumA, e_sumAT, List.reverse_cons, List.reverse_nil, List.zip_cons_cons, List.zip_nil_left, List.zip_nil_right, a_mIndex, a_fld, a_callT, a_methD, a_make, a_val, a_newD, w_enumL, w_enumT, a_apT, a_apG, a_apL, e_ixG, e_tupF, a_no0, a_no1, e_sliceL, e_sliceT, a_ins, a_cat, e_revL, List.nil_append, List.reverse_nil, subE_BadField_BadField, in_xs_0_BadField, fc_modulus_Field, fc_size_Field, fc_prime_Field, fc_degree_Field, fc_digit_rows_Field, fc_sum_rows_Field, fc_product_rows_Field, fc_negatives_Field, fc_inverses_Field, fc_step_row_Field, subXs_BadField_RankError, subXs_BadField_ValueError, subXs_BadField_BadThing, tf_m_raised_Field_Field, tf_eq_Field]
theorem figure_frame (FT FM : List D → Rf) (el : M Tk) {h h1 h2 p d u : D} {ms : List D} {r r2 : Int} (lc : mLcLoop (gN 7) [7] (mCmp cLe (mBin dIx (mVar 7) (mC (.int 1))) (mVar 1)) el MENU [] [.ow h, .sh (.int 4), .sh (.lst MENU), .no, .no, .no, .no, .no] = .ok MENU [.ow h, .sh (.int 4), .sh (.lst MENU), .no, .no, .no, .no, .no])
    (t1 : FT [h, .int 16] = .ok false (.int r) h1) (x : atI MENU r = some (.tup [p, d])) (m : FM [p, d] = .ok true (.lst ms) .non) (t2 : FT [h1, .int ms.length] = .ok false (.int r2) h2) (y : atI ms r2 = some u) :
    mkIO 8 ((mSeq (mAsg 2 (mLst (mCons (mTup (mCons (mC (.int 2)) (mCons (mC (.int 3)) mNil))) (mCons (mTup (mCons (mC (.int 2)) (mCons (mC (.int 2)) mNil))) (mCons (mTup (mCons (mC (.int 3)) (mCons (mC (.int 2)) mNil))) (mCons (mTup (mCons (mC (.int 2)) (mCons (mC (.int 4)) mNil))) (mCons (mTup (mCons (mC (.int 2)) (mCons (mC (.int 3)) mNil))) (mCons (mTup (mCons (mC (.int 3)) (mCons (mC (.int 2)) mNil))) (mCons (mTup (mCons (mC (.int 3)) (mCons (mC (.int 3)) mNil))) (mCons (mTup (mCons (mC (.int 2)) (mCons (mC (.int 2)) mNil))) (mCons (mTup (mCons (mC (.int 2)) (mCons (mC (.int 4)) mNil))) (mCons (mTup (mCons (mC (.int 2)) (mCons (mC (.int 3)) mNil))) (mCons (mTup (mCons (mC (.int 3)) (mCons (mC (.int 2)) mNil))) (mCons (mTup (mCons (mC (.int 2)) (mCons (mC (.int 4)) mNil))) (mCons (mTup (mCons (mC (.int 2)) (mCons (mC (.int 3)) mNil))) (mCons (mTup (mCons (mC (.int 3)) (mCons (mC (.int 3)) mNil))) (mCons (mTup (mCons (mC (.int 2)) (mCons (mC (.int 1)) mNil))) (mCons (mTup (mCons (mC (.int 3)) (mCons (mC (.int 1)) mNil))) mNil))))))))))))))))))
  (mSeq (mAsg 3 (mLc (mIter (mVar 2)) (gN 7) [7] (mCmp cLe (mBin dIx (mVar 7) (mC (.int 1))) (mVar 1)) el))
  (mSeq (mAsgG (gT 2 (gs1 (gN 4) (gs1 (gN 5) gs0))) (mBin dIx (mVar 3) (mCallIO FT 0 (mCons (mCall (fn1 dLen) (mCons (mVar 3) mNil)) mNil))))
  (mSeq (mAsg 6 (mCallF FM (mCons (mVar 4) (mCons (mVar 5) mNil))))
  (mRet (mTup (mCons (mVar 4) (mCons (mBin dIx (mVar 6) (mCallIO FT 0 (mCons (mCall (fn1 dLen) (mCons (mVar 6) mNil)) mNil))) mNil))))))))) [h, .int 4] = .ok false (.tup [p, u]) h2 := by
  unfold MENU at lc x
  have ln : ((16 : Nat) : Int) = 16 := rfl
  simp only [bindR_ok, bindR_ex, a_bind, a_of_some, a_var, a_c, a_bin, a_un, a_test, a_tru, a_cmp, a_and, a_or, a_not, a_if, a_andV, a_orV, a_notV, a_bl, a_nil, a_cons, a_tup, a_lst, a_call, a_callF, a_callIO, a_seq, a_next, a_ret, a_retN, a_drop, a_break, a_cont, a_ifS, a_asg, a_asgG, a_app, a_setI, a_iter, a_rng, a_for, a_slice, a_part0, a_part1, a_lc, a_yes, l_val, l_new, l_slot, f_val, f_new, f_slot, t_val, t_new, t_slot, s_val, s_new, s_slot, a_look2, a_look1, a_fa0, a_fa1, a_la0, a_la1, a_fn1, a_fn2, a_gN, a_gs0, a_gs1, a_gT, a_turn, a_fg0, a_fg1, a_wp0, a_wp1, a_rs0, a_rs1, a_mkF, a_mkIO, a_owL, a_owD, a_tkT, a_tkF, a_apf, a_apb, a_apn, a_aps, e_addI, e_subI, e_mulI, e_divI, e_modI, e_negI, e_lt, e_le, e_gt, e_ge, e_is, e_isnot, a_lift, e_lenL, e_lenT, e_lenS, e_intI, e_intB, e_absI, e_truB, e_truI, e_truN, e_truL, e_truT, e_ixL, e_ixT, e_tupL, e_tupT, e_lstL, e_lstT, e_sum, cEq_int, cNe_int, fin_nx, fin_val, fin_new, fin_slot, fin_ex, finIO_nx, finIO_val, finIO_new, finIO_slot, finIO_ex, entry_eq, entryIO_eq, atI_0, atI_1, atI_2, atI_3, Option.map_some, List.set_cons_zero, List.set_cons_succ, List.getElem?_cons_zero, List.getElem?_cons_succ, List.getElem?_nil, List.getD_cons_zero, List.getD_cons_succ, List.map_cons, List.map_nil, List.length_cons, List.length_nil, List.length_map, List.replicate, List.cons_append, List.nil_append, Nat.reduceAdd, Nat.reduceSub, Nat.reduceLeDiff, Nat.reduceLT, Nat.zero_le, Int.reduceLT, Int.reduceLE, Int.reduceEq, Int.reduceNeg, if_true, if_false, Bool.false_eq_true, Bool.true_eq_false, reduceIte, Bool.or_true, Bool.true_or, Bool.false_or, Bool.or_false, Bool.and_true, Bool.and_false, Bool.true_and, Bool.false_and, Bool.not_true, Bool.not_false, decide_true, decide_false, decide_eq_true_eq, and_self, not_true_eq_false, not_false_eq_true, ite_self, a_try_ok, a_raise0, a_raise, a_h0, a_h1, a_en0, a_en1, a_se_nx, a_se_rt, a_lv0, a_lv1, a_un0, a_un1, a_cx0, a_cx1, a_cx2, a_cx3, a_xf, a_pad, a_walk, a_rev, a_par, a_chain, a_chainB, w_enum, w_zipL, w_zipT, e_max, e_min, e_and, e_sumA, e_sumAT, List.reverse_cons, List.reverse_nil, List.zip_cons_cons, List.zip_nil_left, List.zip_nil_right, a_mIndex, a_fld, a_callT, a_methD, a_make, a_val, a_newD, w_enumL, w_enumT, a_apT, a_apG, a_apL, e_ixG, e_tupF, a_no0, a_no1, e_sliceL, e_sliceT, a_ins, a_cat, e_revL, List.nil_append, List.reverse_nil, subE_BadField_BadField, in_xs_0_BadField, fc_modulus_Field, fc_size_Field, fc_prime_Field, fc_degree_Field, fc_digit_rows_Field, fc_sum_rows_Field, fc_product_rows_Field, fc_negatives_Field, fc_inverses_Field, fc_step_row_Field, subXs_BadField_RankError, subXs_BadField_ValueError, subXs_BadField_BadThing, tf_m_raised_Field_Field, tf_eq_Field, lc, ln, t1, x, m, t2, y, ite_self]
theorem spoil_0 (FT : List D → Rf) {h h1 h2 q : D} {ms : List D} {r : Int} {u : D} (t1 : FT [h, .int 5] = .ok false (.int 0) h1) (t2 : FT [h1, .int 10] = .ok false (.int r) h2)
    (x : atI [.bl true, .int 0, .int (-2), .int 4, .int 5, .non, .str "2", .tup [.int 2], .int 1, .int (-3)] r = some u) : mkIO 7 ((mSeq (mAsg 3 (mCall (fn1 dList) (mCons (mVar 2) mNil)))
  (mSeq (mAsg 4 (mCallIO FT 0 (mCons (mC (.int 5)) mNil)))
  (mSeq (mIfS (mCmp cEq (mVar 4) (mC (.int 0))) (mSeq (mAsg 5 (mTup (mCons (mC (.bl true)) (mCons (mC (.int 0)) (mCons (mUn dNeg (mC (.int 2))) (mCons (mC (.int 4)) (mCons (mC (.int 5)) (mCons (mC .non) (mCons (mC (.str "2")) (mCons (mTup (mCons (mC (.int 2)) mNil)) (mCons (mC (.int 1)) (mCons (mUn dNeg (mC (.int 3))) mNil))))))))))))
  (mRet (mTup (mCons (mBin dIx (mVar 5) (mCallIO FT 0 (mCons (mC (.int 10)) mNil))) (mCons (mVar 3) mNil))))) mNext)
  (mSeq (mIfS (mCmp cEq (mVar 4) (mC (.int 1))) (mSeq (mAsg 5 (mTup (mCons (mC .non) (mCons (mC (.str "11")) (mCons (mC (.int 3)) (mCons mNewD (mCons (mC (.bl true)) mNil)))))))
  (mRet (mTup (mCons (mVar 1) (mCons (mBin dIx (mVar 5) (mCallIO FT 0 (mCons (mC (.int 5)) mNil))) mNil))))) mNext)
  (mSeq (mAsg 6 (mCallIO FT 0 (mCons (mCall (fn1 dLen) (mCons (mVar 3) mNil)) mNil)))
  (mSeq (mAsg 5 (mTup (mCons (mVar 1) (mCons (mUn dNeg (mC (.int 1))) (mCons (mC (.bl true)) (mCons (mC .non) (mCons (mC (.str "1")) (mCons (mTup (mCons (mC (.int 1)) mNil)) (mCons (mBin dPow (mC (.int 10)) (mC (.int 20))) (mCons (mC (.bl false)) mNil))))))))))
  (mSeq (mSetI 3 (mVar 6) (mBin dIx (mVar 5) (mCallIO FT 0 (mCons (mC (.int 8)) mNil))))
  (mSeq (mIfS (mCmp cEq (mVar 4) (mC (.int 2))) (mSeq (mAsg 5 (mTup (mCons (mC (.bl true)) (mCons (mC (.int 4)) (mCons (mC (.str "3")) mNil)))))
  (mRet (mTup (mCons (mBin dIx (mVar 5) (mCallIO FT 0 (mCons (mC (.int 3)) mNil))) (mCons (mVar 3) mNil))))) mNext)
  (mRet (mTup (mCons (mVar 1) (mCons (mIf (mCmp cEq (mVar 4) (mC (.int 3))) (mCall (fn1 dTuple) (mCons (mVar 3) mNil)) (mVar 3)) mNil))))))))))))) [h, q, .tup ms] = .ok false (.tup [u, .lst ms]) h2 := by
  simp only [bindR_ok, bindR_ex, a_bind, a_of_some, a_var, a_c, a_bin, a_un, a_test, a_tru, a_cmp, a_and, a_or, a_not, a_if, a_andV, a_orV, a_notV, a_bl, a_nil, a_cons, a_tup, a_lst, a_call, a_callF, a_callIO, a_seq, a_next, a_ret, a_retN, a_drop, a_break, a_cont, a_ifS, a_asg, a_asgG, a_app, a_setI, a_iter, a_rng, a_for, a_slice, a_part0, a_part1, a_lc, a_yes, l_val, l_new, l_slot, f_val, f_new, f_slot, t_val, t_new, t_slot, s_val, s_new, s_slot, a_look2, a_look1, a_fa0, a_fa1, a_la0, a_la1, a_fn1, a_fn2, a_gN, a_gs0, a_gs1, a_gT, a_turn, a_fg0, a_fg1, a_wp0, a_wp1, a_rs0, a_rs1, a_mkF, a_mkIO, a_owL, a_owD, a_tkT, a_tkF, a_apf, a_apb, a_apn, a_aps, e_addI, e_subI, e_mulI, e_divI, e_modI, e_negI, e_lt, e_le, e_gt, e_ge, e_is, e_isnot, a_lift, e_lenL, e_lenT, e_lenS, e_intI, e_intB, e_absI, e_truB, e_truI, e_truN, e_truL, e_truT, e_ixL, e_ixT, e_tupL, e_tupT, e_lstL, e_lstT, e_sum, cEq_int, cNe_int, fin_nx, fin_val, fin_new, fin_slot, fin_ex, finIO_nx, finIO_val, finIO_new, finIO_slot, finIO_ex, entry_eq, entryIO_eq, atI_0, atI_1, atI_2, atI_3, Option.map_some, List.set_cons_zero, List.set_cons_succ, List.getElem?_cons_zero, List.getElem?_cons_succ, List.getElem?_nil, List.getD_cons_zero, List.getD_cons_succ, List.map_cons, List.map_nil, List.length_cons, List.length_nil, List.length_map, List.replicate, List.cons_append, List.nil_append, Nat.reduceAdd, Nat.reduceSub, Nat.reduceLeDiff, Nat.reduceLT, Nat.zero_le, Int.reduceLT, Int.reduceLE, Int.reduceEq, Int.reduceNeg, if_true, if_false, Bool.false_eq_true, Bool.true_eq_false, reduceIte, Bool.or_true, Bool.true_or, Bool.false_or, Bool.or_false, Bool.and_true, Bool.and_false, Bool.true_and, Bool.false_and, Bool.not_true, Bool.not_false, decide_true, decide_false, decide_eq_true_eq, and_self, not_true_eq_false, not_false_eq_true, ite_self, a_try_ok, a_raise0, a_raise, a_h0, a_h1, a_en0, a_en1, a_se_nx, a_se_rt, a_lv0, a_lv1, a_un0, a_un1, a_cx0, a_cx1, a_cx2, a_cx3, a_xf, a_pad, a_walk, a_rev, a_par, a_chain, a_chainB, w_enum, w_zipL, w_zipT, e_max, e_min, e_and, e_sumA, e_sumAT, List.reverse_cons, List.reverse_nil, List.zip_cons_cons, List.zip_nil_left, List.zip_nil_right, a_mIndex, a_fld, a_callT, a_methD, a_make, a_val, a_newD, w_enumL, w_enumT, a_apT, a_apG, a_apL, e_ixG, e_tupF, a_no0, a_no1, e_sliceL, e_sliceT, a_ins, a_cat, e_revL, List.nil_append, List.reverse_nil, subE_BadField_BadField, in_xs_0_BadField, fc_modulus_Field, fc_size_Field, fc_prime_Field, fc_degree_Field, fc_digit_rows_Field, fc_sum_rows_Field, fc_product_rows_Field, fc_negatives_Field, fc_inverses_Field, fc_step_row_Field, subXs_BadField_RankError, subXs_BadField_ValueError, subXs_BadField_BadThing, tf_m_raised_Field_Field, tf_eq_Field, t1, t2, x]
theorem spoil_1 (FT : List D → Rf) {h h1 h2 q : D} {ms : List D} {r : Int} {u : D} (t1 : FT [h, .int 5] = .ok false (.int 1) h1) (t2 : FT [h1, .int 5] = .ok false (.int r) h2)
    (x : atI [.non, .str "11", .int 3, .dic [] [], .bl true] r = some u) : mkIO 7 ((mSeq (mAsg 3 (mCall (fn1 dList) (mCons (mVar 2) mNil)))
  (mSeq (mAsg 4 (mCallIO FT 0 (mCons (mC (.int 5)) mNil)))
  (mSeq (mIfS (mCmp cEq (mVar 4) (mC (.int 0))) (mSeq (mAsg 5 (mTup (mCons (mC (.bl true)) (mCons (mC (.int 0)) (mCons (mUn dNeg (mC (.int 2))) (mCons (mC (.int 4)) (mCons (mC (.int 5)) (mCons (mC .non) (mCons (mC (.str "2")) (mCons (mTup (mCons (mC (.int 2)) mNil)) (mCons (mC (.int 1)) (mCons (mUn dNeg (mC (.int 3))) mNil))))))))))))
  (mRet (mTup (mCons (mBin dIx (mVar 5) (mCallIO FT 0 (mCons (mC (.int 10)) mNil))) (mCons (mVar 3) mNil))))) mNext)
  (mSeq (mIfS (mCmp cEq (mVar 4) (mC (.int 1))) (mSeq (mAsg 5 (mTup (mCons (mC .non) (mCons (mC (.str "11")) (mCons (mC (.int 3)) (mCons mNewD (mCons (mC (.bl true)) mNil)))))))
  (mRet (mTup (mCons (mVar 1) (mCons (mBin dIx (mVar 5) (mCallIO FT 0 (mCons (mC (.int 5)) mNil))) mNil))))) mNext)
  (mSeq (mAsg 6 (mCallIO FT 0 (mCons (mCall (fn1 dLen) (mCons (mVar 3) mNil)) mNil)))
  (mSeq (mAsg 5 (mTup (mCons (mVar 1) (mCons (mUn dNeg (mC (.int 1))) (mCons (mC (.bl true)) (mCons (mC .non) (mCons (mC (.str "1")) (mCons (mTup (mCons (mC (.int 1)) mNil)) (mCons (mBin dPow (mC (.int 10)) (mC (.int 20))) (mCons (mC (.bl false)) mNil))))))))))
  (mSeq (mSetI 3 (mVar 6) (mBin dIx (mVar 5) (mCallIO FT 0 (mCons (mC (.int 8)) mNil))))
  (mSeq (mIfS (mCmp cEq (mVar 4) (mC (.int 2))) (mSeq (mAsg 5 (mTup (mCons (mC (.bl true)) (mCons (mC (.int 4)) (mCons (mC (.str "3")) mNil)))))
  (mRet (mTup (mCons (mBin dIx (mVar 5) (mCallIO FT 0 (mCons (mC (.int 3)) mNil))) (mCons (mVar 3) mNil))))) mNext)
  (mRet (mTup (mCons (mVar 1) (mCons (mIf (mCmp cEq (mVar 4) (mC (.int 3))) (mCall (fn1 dTuple) (mCons (mVar 3) mNil)) (mVar 3)) mNil))))))))))))) [h, q, .tup ms] = .ok false (.tup [q, u]) h2 := by
  simp only [bindR_ok, bindR_ex, a_bind, a_of_some, a_var, a_c, a_bin, a_un, a_test, a_tru, a_cmp, a_and, a_or, a_not, a_if, a_andV, a_orV, a_notV, a_bl, a_nil, a_cons, a_tup, a_lst, a_call, a_callF, a_callIO, a_seq, a_next, a_ret, a_retN, a_drop, a_break, a_cont, a_ifS, a_asg, a_asgG, a_app, a_setI, a_iter, a_rng, a_for, a_slice, a_part0, a_part1, a_lc, a_yes, l_val, l_new, l_slot, f_val, f_new, f_slot, t_val, t_new, t_slot, s_val, s_new, s_slot, a_look2, a_look1, a_fa0, a_fa1, a_la0, a_la1, a_fn1, a_fn2, a_gN, a_gs0, a_gs1, a_gT, a_turn, a_fg0, a_fg1, a_wp0, a_wp1, a_rs0, a_rs1, a_mkF, a_mkIO, a_owL, a_owD, a_tkT, a_tkF, a_apf, a_apb, a_apn, a_aps, e_addI, e_subI, e_mulI, e_divI, e_modI, e_negI, e_lt, e_le, e_gt, e_ge, e_is, e_isnot, a_lift, e_lenL, e_lenT, e_lenS, e_intI, e_intB, e_absI, e_truB, e_truI, e_truN, e_truL, e_truT, e_ixL, e_ixT, e_tupL, e_tupT, e_lstL, e_lstT, e_sum, cEq_int, cNe_int, fin_nx, fin_val, fin_new, fin_slot, fin_ex, finIO_nx, finIO_val, finIO_new, finIO_slot, finIO_ex, entry_eq, entryIO_eq, atI_0, atI_1, atI_2, atI_3, Option.map_some, List.set_cons_zero, List.set_cons_succ, List.getElem?_cons_zero, List.getElem?_cons_succ, List.getElem?_nil, List.getD_cons_zero, List.getD_cons_succ, List.map_cons, List.map_nil, List.length_cons, List.length_nil, List.length_map, List.replicate, List.cons_append, List.nil_append, Nat.reduceAdd, Nat.reduceSub, Nat.reduceLeDiff, Nat.reduceLT, Nat.zero_le, Int.reduceLT, Int.reduceLE, Int.reduceEq, Int.reduceNeg, if_true, if_false, Bool.false_eq_true, Bool.true_eq_false, reduceIte, Bool.or_true, Bool.true_or, Bool.false_or, Bool.or_false, Bool.and_true, Bool.and_false, Bool.true_and, Bool.false_and, Bool.not_true, Bool.not_false, decide_true, decide_false, decide_eq_true_eq, and_self, not_true_eq_false, not_false_eq_true, ite_self, a_try_ok, a_raise0, a_raise, a_h0, a_h1, a_en0, a_en1, a_se_nx, a_se_rt, a_lv0, a_lv1, a_un0, a_un1, a_cx0, a_cx1, a_cx2, a_cx3, a_xf, a_pad, a_walk, a_rev, a_par, a_chain, a_chainB, w_enum, w_zipL, w_zipT, e_max, e_min, e_and, e_sumA, e_sumAT, List.reverse_cons, List.reverse_nil, List.zip_cons_cons, List.zip_nil_left, List.zip_nil_right, a_mIndex, a_fld, a_callT, a_methD, a_make, a_val, a_newD, w_enumL, w_enumT, a_apT, a_apG, a_apL, e_ixG, e_tupF, a_no0, a_no1, e_sliceL, e_sliceT, a_ins, a_cat, e_revL, List.nil_append, List.reverse_nil, subE_BadField_BadField, in_xs_0_BadField, fc_modulus_Field, fc_size_Field, fc_prime_Field, fc_degree_Field, fc_digit_rows_Field, fc_sum_rows_Field, fc_product_rows_Field, fc_negatives_Field, fc_inverses_Field, fc_step_row_Field, subXs_BadField_RankError, subXs_BadField_ValueError, subXs_BadField_BadThing, tf_m_raised_Field_Field, tf_eq_Field, t1, t2, x]
theorem spoil_2 (FT : List D → Rf) {h h1 h2 h3 h4 q : D} {ms : List D} {r a s : Int} {i : Nat} {u v : D} (t1 : FT [h, .int 5] = .ok false (.int 2) h1) (t2 : FT [h1, .int ms.length] = .ok false (.int a) h2)
    (t3 : FT [h2, .int 8] = .ok false (.int r) h3) (x : atI [q, .int (-1), .bl true, .non, .str "1", .tup [.int 1], .int 100000000000000000000, .bl false] r = some u) (ix : ixN ms.length a = some i)
    (t4 : FT [h3, .int 3] = .ok false (.int s) h4) (y : atI [.bl true, .int 4, .str "3"] s = some v) : mkIO 7 ((mSeq (mAsg 3 (mCall (fn1 dList) (mCons (mVar 2) mNil)))
  (mSeq (mAsg 4 (mCallIO FT 0 (mCons (mC (.int 5)) mNil)))
  (mSeq (mIfS (mCmp cEq (mVar 4) (mC (.int 0))) (mSeq (mAsg 5 (mTup (mCons (mC (.bl true)) (mCons (mC (.int 0)) (mCons (mUn dNeg (mC (.int 2))) (mCons (mC (.int 4)) (mCons (mC (.int 5)) (mCons (mC .non) (mCons (mC (.str "2")) (mCons (mTup (mCons (mC (.int 2)) mNil)) (mCons (mC (.int 1)) (mCons (mUn dNeg (mC (.int 3))) mNil))))))))))))
  (mRet (mTup (mCons (mBin dIx (mVar 5) (mCallIO FT 0 (mCons (mC (.int 10)) mNil))) (mCons (mVar 3) mNil))))) mNext)
  (mSeq (mIfS (mCmp cEq (mVar 4) (mC (.int 1))) (mSeq (mAsg 5 (mTup (mCons (mC .non) (mCons (mC (.str "11")) (mCons (mC (.int 3)) (mCons mNewD (mCons (mC (.bl true)) mNil)))))))
  (mRet (mTup (mCons (mVar 1) (mCons (mBin dIx (mVar 5) (mCallIO FT 0 (mCons (mC (.int 5)) mNil))) mNil))))) mNext)
  (mSeq (mAsg 6 (mCallIO FT 0 (mCons (mCall (fn1 dLen) (mCons (mVar 3) mNil)) mNil)))
  (mSeq (mAsg 5 (mTup (mCons (mVar 1) (mCons (mUn dNeg (mC (.int 1))) (mCons (mC (.bl true)) (mCons (mC .non) (mCons (mC (.str "1")) (mCons (mTup (mCons (mC (.int 1)) mNil)) (mCons (mBin dPow (mC (.int 10)) (mC (.int 20))) (mCons (mC (.bl false)) mNil))))))))))
  (mSeq (mSetI 3 (mVar 6) (mBin dIx (mVar 5) (mCallIO FT 0 (mCons (mC (.int 8)) mNil))))
  (mSeq (mIfS (mCmp cEq (mVar 4) (mC (.int 2))) (mSeq (mAsg 5 (mTup (mCons (mC (.bl true)) (mCons (mC (.int 4)) (mCons (mC (.str "3")) mNil)))))
  (mRet (mTup (mCons (mBin dIx (mVar 5) (mCallIO FT 0 (mCons (mC (.int 3)) mNil))) (mCons (mVar 3) mNil))))) mNext)
  (mRet (mTup (mCons (mVar 1) (mCons (mIf (mCmp cEq (mVar 4) (mC (.int 3))) (mCall (fn1 dTuple) (mCons (mVar 3) mNil)) (mVar 3)) mNil))))))))))))) [h, q, .tup ms] = .ok false (.tup [v, .lst (ms.set i u)]) h4 := by
  have pw : dPow (.int 10) (.int 20) = some (.val (.int 100000000000000000000)) := rfl
  simp only [bindR_ok, bindR_ex, a_bind, a_of_some, a_var, a_c, a_bin, a_un, a_test, a_tru, a_cmp, a_and, a_or, a_not, a_if, a_andV, a_orV, a_notV, a_bl, a_nil, a_cons, a_tup, a_lst, a_call, a_callF, a_callIO, a_seq, a_next, a_ret, a_retN, a_drop, a_break, a_cont, a_ifS, a_asg, a_asgG, a_app, a_setI, a_iter, a_rng, a_for, a_slice, a_part0, a_part1, a_lc, a_yes, l_val, l_new, l_slot, f_val, f_new, f_slot, t_val, t_new, t_slot, s_val, s_new, s_slot, a_look2, a_look1, a_fa0, a_fa1, a_la0, a_la1, a_fn1, a_fn2, a_gN, a_gs0, a_gs1, a_gT, a_turn, a_fg0, a_fg1, a_wp0, a_wp1, a_rs0, a_rs1, a_mkF, a_mkIO, a_owL, a_owD, a_tkT, a_tkF, a_apf, a_apb, a_apn, a_aps, e_addI, e_subI, e_mulI, e_divI, e_modI, e_negI, e_lt, e_le, e_gt, e_ge, e_is, e_isnot, a_lift, e_lenL, e_lenT, e_lenS, e_intI, e_intB, e_absI, e_truB, e_truI, e_truN, e_truL, e_truT, e_ixL, e_ixT, e_tupL, e_tupT, e_lstL, e_lstT, e_sum, cEq_int, cNe_int, fin_nx, fin_val, fin_new, fin_slot, fin_ex, finIO_nx, finIO_val, finIO_new, finIO_slot, finIO_ex, entry_eq, entryIO_eq, atI_0, atI_1, atI_2, atI_3, Option.map_some, List.set_cons_zero, List.set_cons_succ, List.getElem?_cons_zero, List.getElem?_cons_succ, List.getElem?_nil, List.getD_cons_zero, List.getD_cons_succ, List.map_cons, List.map_nil, List.length_cons, List.length_nil, List.length_map, List.replicate, List.cons_append, List.nil_append, Nat.reduceAdd, Nat.reduceSub, Nat.reduceLeDiff, Nat.reduceLT, Nat.zero_le, Int.reduceLT, Int.reduceLE, Int.reduceEq, Int.reduceNeg, if_true, if_false, Bool.false_eq_true, Bool.true_eq_false, reduceIte, Bool.or_true, Bool.true_or, Bool.false_or, Bool.or_false, Bool.and_true, Bool.and_false, Bool.true_and, Bool.false_and, Bool.not_true, Bool.not_false, decide_true, decide_false, decide_eq_true_eq, and_self, not_true_eq_false, not_false_eq_true, ite_self, a_try_ok, a_raise0, a_raise, a_h0, a_h1, a_en0, a_en1, a_se_nx, a_se_rt, a_lv0, a_lv1, a_un0, a_un1, a_cx0, a_cx1, a_cx2, a_cx3, a_xf, a_pad, a_walk, a_rev, a_par, a_chain, a_chainB, w_enum, w_zipL, w_zipT, e_max, e_min, e_and, e_sumA, e_sumAT, List.reverse_cons, List.reverse_nil, List.zip_cons_cons, List.zip_nil_left, List.zip_nil_right, a_mIndex, a_fld, a_callT, a_methD, a_make, a_val, a_newD, w_enumL, w_enumT, a_apT, a_apG, a_apL, e_ixG, e_tupF, a_no0, a_no1, e_sliceL, e_sliceT, a_ins, a_cat, e_revL, List.nil_append, List.reverse_nil, subE_BadField_BadField, in_xs_0_BadField, fc_modulus_Field, fc_size_Field, fc_prime_Field, fc_degree_Field, fc_digit_rows_Field, fc_sum_rows_Field, fc_product_rows_Field, fc_negatives_Field, fc_inverses_Field, fc_step_row_Field, subXs_BadField_RankError, subXs_BadField_ValueError, subXs_BadField_BadThing, tf_m_raised_Field_Field, tf_eq_Field, t1, t2, t3, t4, x, ix, y, pw]
theorem spoil_3 (FT : List D → Rf) {h h1 h2 h3 q : D} {ms : List D} {r a k : Int} {i : Nat} {u : D} (t1 : FT [h, .int 5] = .ok false (.int k) h1) (hk : k = 3 ∨ k = 4) (t2 : FT [h1, .int ms.length] = .ok false (.int a) h2)
    (t3 : FT [h2, .int 8] = .ok false (.int r) h3) (x : atI [q, .int (-1), .bl true, .non, .str "1", .tup [.int 1], .int 100000000000000000000, .bl false] r = some u) (ix : ixN ms.length a = some i) :
    mkIO 7 ((mSeq (mAsg 3 (mCall (fn1 dList) (mCons (mVar 2) mNil)))
  (mSeq (mAsg 4 (mCallIO FT 0 (mCons (mC (.int 5)) mNil)))
  (mSeq (mIfS (mCmp cEq (mVar 4) (mC (.int 0))) (mSeq (mAsg 5 (mTup (mCons (mC (.bl true)) (mCons (mC (.int 0)) (mCons (mUn dNeg (mC (.int 2))) (mCons (mC (.int 4)) (mCons (mC (.int 5)) (mCons (mC .non) (mCons (mC (.str "2")) (mCons (mTup (mCons (mC (.int 2)) mNil)) (mCons (mC (.int 1)) (mCons (mUn dNeg (mC (.int 3))) mNil))))))))))))
  (mRet (mTup (mCons (mBin dIx (mVar 5) (mCallIO FT 0 (mCons (mC (.int 10)) mNil))) (mCons (mVar 3) mNil))))) mNext)
  (mSeq (mIfS (mCmp cEq (mVar 4) (mC (.int 1))) (mSeq (mAsg 5 (mTup (mCons (mC .non) (mCons (mC (.str "11")) (mCons (mC (.int 3)) (mCons mNewD (mCons (mC (.bl true)) mNil)))))))
  (mRet (mTup (mCons (mVar 1) (mCons (mBin dIx (mVar 5) (mCallIO FT 0 (mCons (mC (.int 5)) mNil))) mNil))))) mNext)
  (mSeq (mAsg 6 (mCallIO FT 0 (mCons (mCall (fn1 dLen) (mCons (mVar 3) mNil)) mNil)))
  (mSeq (mAsg 5 (mTup (mCons (mVar 1) (mCons (mUn dNeg (mC (.int 1))) (mCons (mC (.bl true)) (mCons (mC .non) (mCons (mC (.str "1")) (mCons (mTup (mCons (mC (.int 1)) mNil)) (mCons (mBin dPow (mC (.int 10)) (mC (.int 20))) (mCons (mC (.bl false)) mNil))))))))))
  (mSeq (mSetI 3 (mVar 6) (mBin dIx (mVar 5) (mCallIO FT 0 (mCons (mC (.int 8)) mNil))))
  (mSeq (mIfS (mCmp cEq (mVar 4) (mC (.int 2))) (mSeq (mAsg 5 (mTup (mCons (mC (.bl true)) (mCons (mC (.int 4)) (mCons (mC (.str "3")) mNil)))))
  (mRet (mTup (mCons (mBin dIx (mVar 5) (mCallIO FT 0 (mCons (mC (.int 3)) mNil))) (mCons (mVar 3) mNil))))) mNext)
  (mRet (mTup (mCons (mVar 1) (mCons (mIf (mCmp cEq (mVar 4) (mC (.int 3))) (mCall (fn1 dTuple) (mCons (mVar 3) mNil)) (mVar 3)) mNil))))))))))))) [h, q, .tup ms] = .ok false (.tup [q, if k = 3 then .tup (ms.set i u) else .lst (ms.set i u)]) h3 := by
  have pw : dPow (.int 10) (.int 20) = some (.val (.int 100000000000000000000)) := rfl
  rcases hk with rfl | rfl <;> simp only [bindR_ok, bindR_ex, a_bind, a_of_some, a_var, a_c, a_bin, a_un, a_test, a_tru, a_cmp, a_and, a_or, a_not, a_if, a_andV, a_orV, a_notV, a_bl, a_nil, a_cons, a_tup, a_lst, a_call, a_callF, a_callIO, a_seq, a_next, a_ret, a_retN, a_drop, a_break, a_cont, a_ifS, a_asg, a_asgG, a_app, a_setI, a_iter, a_rng, a_for, a_slice, a_part0, a_part1, a_lc, a_yes, l_val, l_new, l_slot, f_val, f_new, f_slot, t_val, t_new, t_slot, s_val, s_new, s_slot, a_look2, a_look1, a_fa0, a_fa1, a_la0, a_la1, a_fn1, a_fn2, a_gN, a_gs0, a_gs1, a_gT, a_turn, a_fg0, a_fg1, a_wp0, a_wp1, a_rs0, a_rs1, a_mkF, a_mkIO, a_owL, a_owD, a_tkT, a_tkF, a_apf, a_apb, a_apn, a_aps, e_addI, e_subI, e_mulI, e_divI, e_modI, e_negI, e_lt, e_le, e_gt, e_ge, e_is, e_isnot, a_lift, e_lenL, e_lenT, e_lenS, e_intI, e_intB, e_absI, e_truB, e_truI, e_truN, e_truL, e_truT, e_ixL, e_ixT, e_tupL, e_tupT, e_lstL, e_lstT, e_sum, cEq_int, cNe_int, fin_nx, fin_val, fin_new, fin_slot, fin_ex, finIO_nx, finIO_val, finIO_new, finIO_slot, finIO_ex, entry_eq, entryIO_eq, atI_0, atI_1, atI_2, atI_3, Option.map_some, List.set_cons_zero, List.set_cons_succ, List.getElem?_cons_zero, List.getElem?_cons_succ, List.getElem?_nil, List.getD_cons_zero, List.getD_cons_succ, List.map_cons, List.map_nil, List.length_cons, List.length_nil, List.length_map, List.replicate, List.cons_append, List.nil_append, Nat.reduceAdd, Nat.reduceSub, Nat.reduceLeDiff, Nat.reduceLT, Nat.zero_le, Int.reduceLT, Int.reduceLE, Int.reduceEq, Int.reduceNeg, if_true, if_false, Bool.false_eq_true, Bool.true_eq_false, reduceIte, Bool.or_true, Bool.true_or, Bool.false_or, Bool.or_false, Bool.and_true, Bool.and_false, Bool.true_and, Bool.false_and, Bool.not_true, Bool.not_false, decide_true, decide_false, decide_eq_true_eq, and_self, not_true_eq_false, not_false_eq_true, ite_self, a_try_ok, a_raise0, a_raise, a_h0, a_h1, a_en0, a_en1, a_se_nx, a_se_rt, a_lv0, a_lv1, a_un0, a_un1, a_cx0, a_cx1, a_cx2, a_cx3, a_xf, a_pad, a_walk, a_rev, a_par, a_chain, a_chainB, w_enum, w_zipL, w_zipT, e_max, e_min, e_and, e_sumA, e_sumAT, List.reverse_cons, List.reverse_nil, List.zip_cons_cons, List.zip_nil_left, List.zip_nil_right, a_mIndex, a_fld, a_callT, a_methD, a_make, a_val, a_newD, w_enumL, w_enumT, a_apT, a_apG, a_apL, e_ixG, e_tupF, a_no0, a_no1, e_sliceL, e_sliceT, a_ins, a_cat, e_revL, List.nil_append, List.reverse_nil, subE_BadField_BadField, in_xs_0_BadField, fc_modulus_Field, fc_size_Field, fc_prime_Field, fc_degree_Field, fc_digit_rows_Field, fc_sum_rows_Field, fc_product_rows_Field, fc_negatives_Field, fc_inverses_Field, fc_step_row_Field, subXs_BadField_RankError, subXs_BadField_ValueError, subXs_BadField_BadThing, tf_m_raised_Field_Field, tf_eq_Field, t1, t2, t3, x, ix, pw]
theorem moduli_eq {p d : Int} (h : (p, d) ∈ [((2 : Int), (1 : Int)), (2, 2), (2, 3), (2, 4), (3, 1), (3, 2), (3, 3)]) : ∃ (q : Nat) (ms : List (List Nat)), p = q ∧ F__law_moduli [.int p, .int d] = .ok true (.lst (ms.map fun md => .tup (nums md))) .non ∧ 1 ≤ (ms.length : Int) ∧ divOk ms.length = true ∧ (ms.all fun md => FLDS.contains (q, md)) = true := by
  simp only [List.mem_cons, List.not_mem_nil, or_false, Prod.mk.injEq] at h
  rcases h with ⟨rfl, rfl⟩ | ⟨rfl, rfl⟩ | ⟨rfl, rfl⟩ | ⟨rfl, rfl⟩ | ⟨rfl, rfl⟩ | ⟨rfl, rfl⟩ | ⟨rfl, rfl⟩
  · exact ⟨2, [[0, 1], [1, 1]], rfl, (by simp only [F__law_moduli, B__law_moduli, bindR_ok, bindR_ex, a_bind, a_of_some, a_var, a_c, a_bin, a_un, a_test, a_tru, a_cmp, a_and, a_or, a_not, a_if, a_andV, a_orV, a_notV, a_bl, a_nil, a_cons, a_tup, a_lst, a_call, a_callF, a_callIO, a_seq, a_next, a_ret, a_retN, a_drop, a_break, a_cont, a_ifS, a_asg, a_asgG, a_app, a_setI, a_iter, a_rng, a_for, a_slice, a_part0, a_part1, a_lc, a_yes, l_val, l_new, l_slot, f_val, f_new, f_slot, t_val, t_new, t_slot, s_val, s_new, s_slot, a_look2, a_look1, a_fa0, a_fa1, a_la0, a_la1, a_fn1, a_fn2, a_gN, a_gs0, a_gs1, a_gT, a_turn, a_fg0, a_fg1, a_wp0, a_wp1, a_rs0, a_rs1, a_mkF, a_mkIO, a_owL, a_owD, a_tkT, a_tkF, a_apf, a_apb, a_apn, a_aps, e_addI, e_subI, e_mulI, e_divI, e_modI, e_negI, e_lt, e_le, e_gt, e_ge, e_is, e_isnot, a_lift, e_lenL, e_lenT, e_lenS, e_intI, e_intB, e_absI, e_truB, e_truI, e_truN, e_truL, e_truT, e_ixL, e_ixT, e_tupL, e_tupT, e_lstL, e_lstT, e_sum, cEq_int, cNe_int, fin_nx, fin_val, fin_new, fin_slot, fin_ex, finIO_nx, finIO_val, finIO_new, finIO_slot, finIO_ex, entry_eq, entryIO_eq, atI_0, atI_1, atI_2, atI_3, Option.map_some, List.set_cons_zero, List.set_cons_succ, List.getElem?_cons_zero, List.getElem?_cons_succ, List.getElem?_nil, List.getD_cons_zero, List.getD_cons_succ, List.map_cons, List.map_nil, List.length_cons, List.length_nil, List.length_map, List.replicate, List.cons_append, List.nil_append, Nat.reduceAdd, Nat.reduceSub, Nat.reduceLeDiff, Nat.reduceLT, Nat.zero_le, Int.reduceLT, Int.reduceLE, Int.reduceEq, Int.reduceNeg, if_true, if_false, Bool.false_eq_true, Bool.true_eq_false, reduceIte, Bool.or_true, Bool.true_or, Bool.false_or, Bool.or_false, Bool.and_true, Bool.and_false, Bool.true_and, Bool.false_and, Bool.not_true, Bool.not_false, decide_true, decide_false, decide_eq_true_eq, and_self, not_true_eq_false, not_false_eq_true, ite_self, a_try_ok, a_raise0, a_raise, a_h0, a_h1, a_en0, a_en1, a_se_nx, a_se_rt, a_lv0, a_lv1, a_un0, a_un1, a_cx0, a_cx1, a_cx2, a_cx3, a_xf, a_pad, a_walk, a_rev, a_par, a_chain, a_chainB, w_enum, w_zipL, w_zipT, e_max, e_min, e_and, e_sumA, e_sumAT, List.reverse_cons, List.reverse_nil, List.zip_cons_cons, List.zip_nil_left, List.zip_nil_right, a_mIndex, a_fld, a_callT, a_methD, a_make, a_val, a_newD, w_enumL, w_enumT, a_apT, a_apG, a_apL, e_ixG, e_tupF, a_no0, a_no1, e_sliceL, e_sliceT, a_ins, a_cat, e_revL, List.nil_append, List.reverse_nil, subE_BadField_BadField, in_xs_0_BadField, fc_modulus_Field, fc_size_Field, fc_prime_Field, fc_degree_Field, fc_digit_rows_Field, fc_sum_rows_Field, fc_product_rows_Field, fc_negatives_Field, fc_inverses_Field, fc_step_row_Field, subXs_BadField_RankError, subXs_BadField_ValueError, subXs_BadField_BadThing, tf_m_raised_Field_Field, tf_eq_Field]; rfl), (by decide), (by decide), (by decide +kernel)⟩
  · exact ⟨2, [[1, 1, 1]], rfl, (by simp only [F__law_moduli, B__law_moduli, bindR_ok, bindR_ex, a_bind, a_of_some, a_var, a_c, a_bin, a_un, a_test, a_tru, a_cmp, a_and, a_or, a_not, a_if, a_andV, a_orV, a_notV, a_bl, a_nil, a_cons, a_tup, a_lst, a_call, a_callF, a_callIO, a_seq, a_next, a_ret, a_retN, a_drop, a_break, a_cont, a_ifS, a_asg, a_asgG, a_app, a_setI, a_iter, a_rng, a_for, a_slice, a_part0, a_part1, a_lc, a_yes, l_val, l_new, l_slot, f_val, f_new, f_slot, t_val, t_new, t_slot, s_val, s_new, s_slot, a_look2, a_look1, a_fa0, a_fa1, a_la0, a_la1, a_fn1, a_fn2, a_gN, a_gs0, a_gs1, a_gT, a_turn, a_fg0, a_fg1, a_wp0, a_wp1, a_rs0, a_rs1, a_mkF, a_mkIO, a_owL, a_owD, a_tkT, a_tkF, a_apf, a_apb, a_apn, a_aps, e_addI, e_subI, e_mulI, e_divI, e_modI, e_negI, e_lt, e_le, e_gt, e_ge, e_is, e_isnot, a_lift, e_lenL, e_lenT, e_lenS, e_intI, e_intB, e_absI, e_truB, e_truI, e_truN, e_truL, e_truT, e_ixL, e_ixT, e_tupL, e_tupT, e_lstL, e_lstT, e_sum, cEq_int, cNe_int, fin_nx, fin_val, fin_new, fin_slot, fin_ex, finIO_nx, finIO_val, finIO_new, finIO_slot, finIO_ex, entry_eq, entryIO_eq, atI_0, atI_1, atI_2, atI_3, Option.map_some, List.set_cons_zero, List.set_cons_succ, List.getElem?_cons_zero, List.getElem?_cons_succ, List.getElem?_nil, List.getD_cons_zero, List.getD_cons_succ, List.map_cons, List.map_nil, List.length_cons, List.length_nil, List.length_map, List.replicate, List.cons_append, List.nil_append, Nat.reduceAdd, Nat.reduceSub, Nat.reduceLeDiff, Nat.reduceLT, Nat.zero_le, Int.reduceLT, Int.reduceLE, Int.reduceEq, Int.reduceNeg, if_true, if_false, Bool.false_eq_true, Bool.true_eq_false, reduceIte, Bool.or_true, Bool.true_or, Bool.false_or, Bool.or_false, Bool.and_true, Bool.and_false, Bool.true_and, Bool.false_and, Bool.not_true, Bool.not_false, decide_true, decide_false, decide_eq_true_eq, and_self, not_true_eq_false, not_false_eq_true, ite_self, a_try_ok, a_raise0, a_raise, a_h0, a_h1, a_en0, a_en1, a_se_nx, a_se_rt, a_lv0, a_lv1, a_un0, a_un1, a_cx0, a_cx1, a_cx2, a_cx3, a_xf, a_pad, a_walk, a_rev, a_par, a_chain, a_chainB, w_enum, w_zipL, w_zipT, e_max, e_min, e_and, e_sumA, e_sumAT, List.reverse_cons, List.reverse_nil, List.zip_cons_cons, List.zip_nil_left, List.zip_nil_right, a_mIndex, a_fld, a_callT, a_methD, a_make, a_val, a_newD, w_enumL, w_enumT, a_apT, a_apG, a_apL, e_ixG, e_tupF, a_no0, a_no1, e_sliceL, e_sliceT, a_ins, a_cat, e_revL, List.nil_append, List.reverse_nil, subE_BadField_BadField, in_xs_0_BadField, fc_modulus_Field, fc_size_Field, fc_prime_Field, fc_degree_Field, fc_digit_rows_Field, fc_sum_rows_Field, fc_product_rows_Field, fc_negatives_Field, fc_inverses_Field, fc_step_row_Field, subXs_BadField_RankError, subXs_BadField_ValueError, subXs_BadField_BadThing, tf_m_raised_Field_Field, tf_eq_Field]; rfl), (by decide), (by decide), (by decide +kernel)⟩
  · exact ⟨2, [[1, 1, 0, 1], [1, 0, 1, 1]], rfl, (by simp only [F__law_moduli, B__law_moduli, bindR_ok, bindR_ex, a_bind, a_of_some, a_var, a_c, a_bin, a_un, a_test, a_tru, a_cmp, a_and, a_or, a_not, a_if, a_andV, a_orV, a_notV, a_bl, a_nil, a_cons, a_tup, a_lst, a_call, a_callF, a_callIO, a_seq, a_next, a_ret, a_retN, a_drop, a_break, a_cont, a_ifS, a_asg, a_asgG, a_app, a_setI, a_iter, a_rng, a_for, a_slice, a_part0, a_part1, a_lc, a_yes, l_val, l_new, l_slot, f_val, f_new, f_slot, t_val, t_new, t_slot, s_val, s_new, s_slot, a_look2, a_look1, a_fa0, a_fa1, a_la0, a_la1, a_fn1, a_fn2, a_gN, a_gs0, a_gs1, a_gT, a_turn, a_fg0, a_fg1, a_wp0, a_wp1, a_rs0, a_rs1, a_mkF, a_mkIO, a_owL, a_owD, a_tkT, a_tkF, a_apf, a_apb, a_apn, a_aps, e_addI, e_subI, e_mulI, e_divI, e_modI, e_negI, e_lt, e_le, e_gt, e_ge, e_is, e_isnot, a_lift, e_lenL, e_lenT, e_lenS, e_intI, e_intB, e_absI, e_truB, e_truI, e_truN, e_truL, e_truT, e_ixL, e_ixT, e_tupL, e_tupT, e_lstL, e_lstT, e_sum, cEq_int, cNe_int, fin_nx, fin_val, fin_new, fin_slot, fin_ex, finIO_nx, finIO_val, finIO_new, finIO_slot, finIO_ex, entry_eq, entryIO_eq, atI_0, atI_1, atI_2, atI_3, Option.map_some, List.set_cons_zero, List.set_cons_succ, List.getElem?_cons_zero, List.getElem?_cons_succ, List.getElem?_nil, List.getD_cons_zero, List.getD_cons_succ, List.map_cons, List.map_nil, List.length_cons, List.length_nil, List.length_map, List.replicate, List.cons_append, List.nil_append, Nat.reduceAdd, Nat.reduceSub, Nat.reduceLeDiff, Nat.reduceLT, Nat.zero_le, Int.reduceLT, Int.reduceLE, Int.reduceEq, Int.reduceNeg, if_true, if_false, Bool.false_eq_true, Bool.true_eq_false, reduceIte, Bool.or_true, Bool.true_or, Bool.false_or, Bool.or_false, Bool.and_true, Bool.and_false, Bool.true_and, Bool.false_and, Bool.not_true, Bool.not_false, decide_true, decide_false, decide_eq_true_eq, and_self, not_true_eq_false, not_false_eq_true, ite_self, a_try_ok, a_raise0, a_raise, a_h0, a_h1, a_en0, a_en1, a_se_nx, a_se_rt, a_lv0, a_lv1, a_un0, a_un1, a_cx0, a_cx1, a_cx2, a_cx3, a_xf, a_pad, a_walk, a_rev, a_par, a_chain, a_chainB, w_enum, w_zipL, w_zipT, e_max, e_min, e_and, e_sumA, e_sumAT, List.reverse_cons, List.reverse_nil, List.zip_cons_cons, List.zip_nil_left, List.zip_nil_right, a_mIndex, a_fld, a_callT, a_methD, a_make, a_val, a_newD, w_enumL, w_enumT, a_apT, a_apG, a_apL, e_ixG, e_tupF, a_no0, a_no1, e_sliceL, e_sliceT, a_ins, a_cat, e_revL, List.nil_append, List.reverse_nil, subE_BadField_BadField, in_xs_0_BadField, fc_modulus_Field, fc_size_Field, fc_prime_Field, fc_degree_Field, fc_digit_rows_Field, fc_sum_rows_Field, fc_product_rows_Field, fc_negatives_Field, fc_inverses_Field, fc_step_row_Field, subXs_BadField_RankError, subXs_BadField_ValueError, subXs_BadField_BadThing, tf_m_raised_Field_Field, tf_eq_Field]; rfl), (by decide), (by decide), (by decide +kernel)⟩
  · exact ⟨2, [[1, 1, 0, 0, 1], [1, 0, 0, 1, 1], [1, 1, 1, 1, 1]], rfl, (by simp only [F__law_moduli, B__law_moduli, bindR_ok, bindR_ex, a_bind, a_of_some, a_var, a_c, a_bin, a_un, a_test, a_tru, a_cmp, a_and, a_or, a_not, a_if, a_andV, a_orV, a_notV, a_bl, a_nil, a_cons, a_tup, a_lst, a_call, a_callF, a_callIO, a_seq, a_next, a_ret, a_retN, a_drop, a_break, a_cont, a_ifS, a_asg, a_asgG, a_app, a_setI, a_iter, a_rng, a_for, a_slice, a_part0, a_part1, a_lc, a_yes, l_val, l_new, l_slot, f_val, f_new, f_slot, t_val, t_new, t_slot, s_val, s_new, s_slot, a_look2, a_look1, a_fa0, a_fa1, a_la0, a_la1, a_fn1, a_fn2, a_gN, a_gs0, a_gs1, a_gT, a_turn, a_fg0, a_fg1, a_wp0, a_wp1, a_rs0, a_rs1, a_mkF, a_mkIO, a_owL, a_owD, a_tkT, a_tkF, a_apf, a_apb, a_apn, a_aps, e_addI, e_subI, e_mulI, e_divI, e_modI, e_negI, e_lt, e_le, e_gt, e_ge, e_is, e_isnot, a_lift, e_lenL, e_lenT, e_lenS, e_intI, e_intB, e_absI, e_truB, e_truI, e_truN, e_truL, e_truT, e_ixL, e_ixT, e_tupL, e_tupT, e_lstL, e_lstT, e_sum, cEq_int, cNe_int, fin_nx, fin_val, fin_new, fin_slot, fin_ex, finIO_nx, finIO_val, finIO_new, finIO_slot, finIO_ex, entry_eq, entryIO_eq, atI_0, atI_1, atI_2, atI_3, Option.map_some, List.set_cons_zero, List.set_cons_succ, List.getElem?_cons_zero, List.getElem?_cons_succ, List.getElem?_nil, List.getD_cons_zero, List.getD_cons_succ, List.map_cons, List.map_nil, List.length_cons, List.length_nil, List.length_map, List.replicate, List.cons_append, List.nil_append, Nat.reduceAdd, Nat.reduceSub, Nat.reduceLeDiff, Nat.reduceLT, Nat.zero_le, Int.reduceLT, Int.reduceLE, Int.reduceEq, Int.reduceNeg, if_true, if_false, Bool.false_eq_true, Bool.true_eq_false, reduceIte, Bool.or_true, Bool.true_or, Bool.false_or, Bool.or_false, Bool.and_true, Bool.and_false, Bool.true_and, Bool.false_and, Bool.not_true, Bool.not_false, decide_true, decide_false, decide_eq_true_eq, and_self, not_true_eq_false, not_false_eq_true, ite_self, a_try_ok, a_raise0, a_raise, a_h0, a_h1, a_en0, a_en1, a_se_nx, a_se_rt, a_lv0, a_lv1, a_un0, a_un1, a_cx0, a_cx1, a_cx2, a_cx3, a_xf, a_pad, a_walk, a_rev, a_par, a_chain, a_chainB, w_enum, w_zipL, w_zipT, e_max, e_min, e_and, e_sumA, e_sumAT, List.reverse_cons, List.reverse_nil, List.zip_cons_cons, List.zip_nil_left, List.zip_nil_right, a_mIndex, a_fld, a_callT, a_methD, a_make, a_val, a_newD, w_enumL, w_enumT, a_apT, a_apG, a_apL, e_ixG, e_tupF, a_no0, a_no1, e_sliceL, e_sliceT, a_ins, a_cat, e_revL, List.nil_append, List.reverse_nil, subE_BadField_BadField, in_xs_0_BadField, fc_modulus_Field, fc_size_Field, fc_prime_Field, fc_degree_Field, fc_digit_rows_Field, fc_sum_rows_Field, fc_product_rows_Field, fc_negatives_Field, fc_inverses_Field, fc_step_row_Field, subXs_BadField_RankError, subXs_BadField_ValueError, subXs_BadField_BadThing, tf_m_raised_Field_Field, tf_eq_Field]; rfl), (by decide), (by decide), (by decide +kernel)⟩
  · exact ⟨3, [[0, 1], [1, 1], [2, 1]], rfl, (by simp only [F__law_moduli, B__law_moduli, bindR_ok, bindR_ex, a_bind, a_of_some, a_var, a_c, a_bin, a_un, a_test, a_tru, a_cmp, a_and, a_or, a_not, a_if, a_andV, a_orV, a_notV, a_bl, a_nil, a_cons, a_tup, a_lst, a_call, a_callF, a_callIO, a_seq, a_next, a_ret, a_retN, a_drop, a_break, a_cont, a_ifS, a_asg, a_asgG, a_app, a_setI, a_iter, a_rng, a_for, a_slice, a_part0, a_part1, a_lc, a_yes, l_val, l_new, l_slot, f_val, f_new, f_slot, t_val, t_new, t_slot, s_val, s_new, s_slot, a_look2, a_look1, a_fa0, a_fa1, a_la0, a_la1, a_fn1, a_fn2, a_gN, a_gs0, a_gs1, a_gT, a_turn, a_fg0, a_fg1, a_wp0, a_wp1, a_rs0, a_rs1, a_mkF, a_mkIO, a_owL, a_owD, a_tkT, a_tkF, a_apf, a_apb, a_apn, a_aps, e_addI, e_subI, e_mulI, e_divI, e_modI, e_negI, e_lt, e_le, e_gt, e_ge, e_is, e_isnot, a_lift, e_lenL, e_lenT, e_lenS, e_intI, e_intB, e_absI, e_truB, e_truI, e_truN, e_truL, e_truT, e_ixL, e_ixT, e_tupL, e_tupT, e_lstL, e_lstT, e_sum, cEq_int, cNe_int, fin_nx, fin_val, fin_new, fin_slot, fin_ex, finIO_nx, finIO_val, finIO_new, finIO_slot, finIO_ex, entry_eq, entryIO_eq, atI_0, atI_1, atI_2, atI_3, Option.map_some, List.set_cons_zero, List.set_cons_succ, List.getElem?_cons_zero, List.getElem?_cons_succ, List.getElem?_nil, List.getD_cons_zero, List.getD_cons_succ, List.map_cons, List.map_nil, List.length_cons, List.length_nil, List.length_map, List.replicate, List.cons_append, List.nil_append, Nat.reduceAdd, Nat.reduceSub, Nat.reduceLeDiff, Nat.reduceLT, Nat.zero_le, Int.reduceLT, Int.reduceLE, Int.reduceEq, Int.reduceNeg, if_true, if_false, Bool.false_eq_true, Bool.true_eq_false, reduceIte, Bool.or_true, Bool.true_or, Bool.false_or, Bool.or_false, Bool.and_true, Bool.and_false, Bool.true_and, Bool.false_and, Bool.not_true, Bool.not_false, decide_true, decide_false, decide_eq_true_eq, and_self, not_true_eq_false, not_false_eq_true, ite_self, a_try_ok, a_raise0, a_raise, a_h0, a_h1, a_en0, a_en1, a_se_nx, a_se_rt, a_lv0, a_lv1, a_un0, a_un1, a_cx0, a_cx1, a_cx2, a_cx3, a_xf, a_pad, a_walk, a_rev, a_par, a_chain, a_chainB, w_enum, w_zipL, w_zipT, e_max, e_min, e_and, e_sumA, e_sumAT, List.reverse_cons, List.reverse_nil, List.zip_cons_cons, List.zip_nil_left, List.zip_nil_right, a_mIndex, a_fld, a_callT, a_methD, a_make, a_val, a_newD, w_enumL, w_enumT, a_apT, a_apG, a_apL, e_ixG, e_tupF, a_no0, a_no1, e_sliceL, e_sliceT, a_ins, a_cat, e_revL, List.nil_append, List.reverse_nil, subE_BadField_BadField, in_xs_0_BadField, fc_modulus_Field, fc_size_Field, fc_prime_Field, fc_degree_Field, fc_digit_rows_Field, fc_sum_rows_Field, fc_product_rows_Field, fc_negatives_Field, fc_inverses_Field, fc_step_row_Field, subXs_BadField_RankError, subXs_BadField_ValueError, subXs_BadField_BadThing, tf_m_raised_Field_Field, tf_eq_Field]; rfl), (by decide), (by decide), (by decide +kernel)⟩
  · exact ⟨3, [[1, 0, 1], [2, 1, 1], [2, 2, 1]], rfl, (by simp only [F__law_moduli, B__law_moduli, bindR_ok, bindR_ex, a_bind, a_of_some, a_var, a_c, a_bin, a_un, a_test, a_tru, a_cmp, a_and, a_or, a_not, a_if, a_andV, a_orV, a_notV, a_bl, a_nil, a_cons, a_tup, a_lst, a_call, a_callF, a_callIO, a_seq, a_next, a_ret, a_retN, a_drop, a_break, a_cont, a_ifS, a_asg, a_asgG, a_app, a_setI, a_iter, a_rng, a_for, a_slice, a_part0, a_part1, a_lc, a_yes, l_val, l_new, l_slot, f_val, f_new, f_slot, t_val, t_new, t_slot, s_val, s_new, s_slot, a_look2, a_look1, a_fa0, a_fa1, a_la0, a_la1, a_fn1, a_fn2, a_gN, a_gs0, a_gs1, a_gT, a_turn, a_fg0, a_fg1, a_wp0, a_wp1, a_rs0, a_rs1, a_mkF, a_mkIO, a_owL, a_owD, a_tkT, a_tkF, a_apf, a_apb, a_apn, a_aps, e_addI, e_subI, e_mulI, e_divI, e_modI, e_negI, e_lt, e_le, e_gt, e_ge, e_is, e_isnot, a_lift, e_lenL, e_lenT, e_lenS, e_intI, e_intB, e_absI, e_truB, e_truI, e_truN, e_truL, e_truT, e_ixL, e_ixT, e_tupL, e_tupT, e_lstL, e_lstT, e_sum, cEq_int, cNe_int, fin_nx, fin_val, fin_new, fin_slot, fin_ex, finIO_nx, finIO_val, finIO_new, finIO_slot, finIO_ex, entry_eq, entryIO_eq, atI_0, atI_1, atI_2, atI_3, Option.map_some, List.set_cons_zero, List.set_cons_succ, List.getElem?_cons_zero, List.getElem?_cons_succ, List.getElem?_nil, List.getD_cons_zero, List.getD_cons_succ, List.map_cons, List.map_nil, List.length_cons, List.length_nil, List.length_map, List.replicate, List.cons_append, List.nil_append, Nat.reduceAdd, Nat.reduceSub, Nat.reduceLeDiff, Nat.reduceLT, Nat.zero_le, Int.reduceLT, Int.reduceLE, Int.reduceEq, Int.reduceNeg, if_true, if_false, Bool.false_eq_true, Bool.true_eq_false, reduceIte, Bool.or_true, Bool.true_or, Bool.false_or, Bool.or_false, Bool.and_true, Bool.and_false, Bool.true_and, Bool.false_and, Bool.not_true, Bool.not_false, decide_true, decide_false, decide_eq_true_eq, and_self, not_true_eq_false, not_false_eq_true, ite_self, a_try_ok, a_raise0, a_raise, a_h0, a_h1, a_en0, a_en1, a_se_nx, a_se_rt, a_lv0, a_lv1, a_un0, a_un1, a_cx0, a_cx1, a_cx2, a_cx3, a_xf, a_pad, a_walk, a_rev, a_par, a_chain, a_chainB, w_enum, w_zipL, w_zipT, e_max, e_min, e_and, e_sumA, e_sumAT, List.reverse_cons, List.reverse_nil, List.zip_cons_cons, List.zip_nil_left, List.zip_nil_right, a_mIndex, a_fld, a_callT, a_methD, a_make, a_val, a_newD, w_enumL, w_enumT, a_apT, a_apG, a_apL, e_ixG, e_tupF, a_no0, a_no1, e_sliceL, e_sliceT, a_ins, a_cat, e_revL, List.nil_append, List.reverse_nil, subE_BadField_BadField, in_xs_0_BadField, fc_modulus_Field, fc_size_Field, fc_prime_Field, fc_degree_Field, fc_digit_rows_Field, fc_sum_rows_Field, fc_product_rows_Field, fc_negatives_Field, fc_inverses_Field, fc_step_row_Field, subXs_BadField_RankError, subXs_BadField_ValueError, subXs_BadField_BadThing, tf_m_raised_Field_Field, tf_eq_Field]; rfl), (by decide), (by decide), (by decide +kernel)⟩
  · exact ⟨3, [[1, 2, 0, 1], [2, 2, 0, 1], [2, 0, 1, 1], [2, 1, 1, 1], [1, 2, 1, 1], [1, 0, 2, 1], [1, 1, 2, 1], [2, 2, 2, 1]], rfl, (by simp only [F__law_moduli, B__law_moduli, bindR_ok, bindR_ex, a_bind, a_of_some, a_var, a_c, a_bin, a_un, a_test, a_tru, a_cmp, a_and, a_or, a_not, a_if, a_andV, a_orV, a_notV, a_bl, a_nil, a_cons, a_tup, a_lst, a_call, a_callF, a_callIO, a_seq, a_next, a_ret, a_retN, a_drop, a_break, a_cont, a_ifS, a_asg, a_asgG, a_app, a_setI, a_iter, a_rng, a_for, a_slice, a_part0, a_part1, a_lc, a_yes, l_val, l_new, l_slot, f_val, f_new, f_slot, t_val, t_new, t_slot, s_val, s_new, s_slot, a_look2, a_look1, a_fa0, a_fa1, a_la0, a_la1, a_fn1, a_fn2, a_gN, a_gs0, a_gs1, a_gT, a_turn, a_fg0, a_fg1, a_wp0, a_wp1, a_rs0, a_rs1, a_mkF, a_mkIO, a_owL, a_owD, a_tkT, a_tkF, a_apf, a_apb, a_apn, a_aps, e_addI, e_subI, e_mulI, e_divI, e_modI, e_negI, e_lt, e_le, e_gt, e_ge, e_is, e_isnot, a_lift, e_lenL, e_lenT, e_lenS, e_intI, e_intB, e_absI, e_truB, e_truI, e_truN, e_truL, e_truT, e_ixL, e_ixT, e_tupL, e_tupT, e_lstL, e_lstT, e_sum, cEq_int, cNe_int, fin_nx, fin_val, fin_new, fin_slot, fin_ex, finIO_nx, finIO_val, finIO_new, finIO_slot, finIO_ex, entry_eq, entryIO_eq, atI_0, atI_1, atI_2, atI_3, Option.map_some, List.set_cons_zero, List.set_cons_succ, List.getElem?_cons_zero, List.getElem?_cons_succ, List.getElem?_nil, List.getD_cons_zero, List.getD_cons_succ, List.map_cons, List.map_nil, List.length_cons, List.length_nil, List.length_map, List.replicate, List.cons_append, List.nil_append, Nat.reduceAdd, Nat.reduceSub, Nat.reduceLeDiff, Nat.reduceLT, Nat.zero_le, Int.reduceLT, Int.reduceLE, Int.reduceEq, Int.reduceNeg, if_true, if_false, Bool.false_eq_true, Bool.true_eq_false, reduceIte, Bool.or_true, Bool.true_or, Bool.false_or, Bool.or_false, Bool.and_true, Bool.and_false, Bool.true_and, Bool.false_and, Bool.not_true, Bool.not_false, decide_true, decide_false, decide_eq_true_eq, and_self, not_true_eq_false, not_false_eq_true, ite_self, a_try_ok, a_raise0, a_raise, a_h0, a_h1, a_en0, a_en1, a_se_nx, a_se_rt, a_lv0, a_lv1, a_un0, a_un1, a_cx0, a_cx1, a_cx2, a_cx3, a_xf, a_pad, a_walk, a_rev, a_par, a_chain, a_chainB, w_enum, w_zipL, w_zipT, e_max, e_min, e_and, e_sumA, e_sumAT, List.reverse_cons, List.reverse_nil, List.zip_cons_cons, List.zip_nil_left, List.zip_nil_right, a_mIndex, a_fld, a_callT, a_methD, a_make, a_val, a_newD, w_enumL, w_enumT, a_apT, a_apG, a_apL, e_ixG, e_tupF, a_no0, a_no1, e_sliceL, e_sliceT, a_ins, a_cat, e_revL, List.nil_append, List.reverse_nil, subE_BadField_BadField, in_xs_0_BadField, fc_modulus_Field, fc_size_Field, fc_prime_Field, fc_degree_Field, fc_digit_rows_Field, fc_sum_rows_Field, fc_product_rows_Field, fc_negatives_Field, fc_inverses_Field, fc_step_row_Field, subXs_BadField_RankError, subXs_BadField_ValueError, subXs_BadField_BadThing, tf_m_raised_Field_Field, tf_eq_Field]; rfl), (by decide), (by decide), (by decide +kernel)⟩
theorem at_lt {α : Type} {xs : List α} {r : Int} (h0 : 0 ≤ r) (h1 : r < xs.length) : ∃ u, atI xs r = some u ∧ u ∈ xs := by
  obtain ⟨n, rfl⟩ : ∃ n : Nat, r = n := ⟨r.toNat, (Int.toNat_of_nonneg h0).symm⟩
  have hn : n < xs.length := by omega
  refine ⟨xs[n], ?_, List.getElem_mem hn⟩
  unfold atI
  rw [ixN_of hn]
  exact List.getElem?_eq_getElem hn
theorem figure_good {h : D} (g : GoodHand h) : ∃ q md h', (q, md) ∈ FLDS ∧ F__law_figure [h, .int 4] = .ok false (.tup [.int (q : Nat), .tup (nums md)]) h' ∧ GoodHand h' := by
  obtain ⟨r, h1, t1, g1, r0, r1⟩ := take_good (many := 16) g (by decide) (by decide)
  obtain ⟨u, hu, hm⟩ := at_lt (xs := MENU) r0 (by rw [show MENU.length = 16 from rfl]; omega)
  obtain ⟨p, d, rfl, hpd⟩ : ∃ p d : Int, u = .tup [.int p, .int d] ∧ (p, d) ∈ [((2 : Int), (1 : Int)), (2, 2), (2, 3), (2, 4), (3, 1), (3, 2), (3, 3)] := by
    unfold MENU at hm
    simp only [List.mem_cons, List.not_mem_nil, or_false] at hm
    rcases hm with rfl | rfl | rfl | rfl | rfl | rfl | rfl | rfl | rfl | rfl | rfl | rfl | rfl | rfl | rfl | rfl <;> exact ⟨_, _, rfl, by decide⟩
  obtain ⟨q, ms, rfl, hm1, l1, l2, hall⟩ := moduli_eq hpd
  obtain ⟨r2, h2, t2, g2, s0, s1⟩ := take_good (many := ms.length) g1 l1 l2
  obtain ⟨v, hv, hvm⟩ := at_lt (xs := ms.map fun md => D.tup (nums md)) s0 (by rw [List.length_map]; exact s1)
  obtain ⟨md, hmd, rfl⟩ := List.mem_map.mp hvm
  refine ⟨q, md, h2, ?_, ?_, g2⟩
  · have := List.all_eq_true.mp hall md hmd
    rw [List.contains_iff_mem] at this
    exact this
  · exact figure_frame F__law_take F__law_moduli L__law_figure_1 menu_lc t1 hu hm1 (by rw [List.length_map]; exact t2) hv
theorem drawn_plain {q : Int} {u : D} (h : u ∈ [D.int q, .int (-1), .bl true, .non, .str "1", .tup [.int 1], .int 100000000000000000000, .bl false]) : plainI u = true := by
  simp only [List.mem_cons, List.not_mem_nil, or_false] at h
  rcases h with rfl | rfl | rfl | rfl | rfl | rfl | rfl | rfl <;> rfl
theorem ix_lt {n : Nat} {a : Int} (h0 : 0 ≤ a) (h1 : a < n) : ∃ i, ixN n a = some i := by
  obtain ⟨k, rfl⟩ : ∃ k : Nat, a = k := ⟨a.toNat, (Int.toNat_of_nonneg h0).symm⟩
  exact ⟨k, ixN_of (by omega)⟩
theorem len_div {l : Nat} (h : l ≤ 64) (h0 : 0 < l) : 1 ≤ (l : Int) ∧ divOk (l : Int) = true := by
  refine ⟨by omega, ?_⟩
  unfold divOk
  rw [Bool.and_eq_true, decide_eq_true_eq, decide_eq_true_eq, Int.natAbs_natCast]
  refine ⟨by omega, Nat.lt_of_le_of_lt (Nat.log2_le_self l) (by omega)⟩
theorem spoiled_good {h : D} (g : GoodHand h) {q : Nat} {md : List Nat} (f : (q, md) ∈ FLDS) : ∃ P M h', F__law_spoiled [h, .int q, .tup (nums md)] = .ok false (.tup [P, M]) h' ∧ GoodHand h' ∧ Pair P M := by
  have b := bas_of (List.all_eq_true.mp bas_F _ f)
  obtain ⟨c1, c2, hq⟩ : 2 ≤ md.length ∧ md.length ≤ 5 ∧ (q = 2 ∨ q = 3) := ⟨b.c1, b.c2, b.h⟩
  have nl : (nums md).length = md.length := nums_len md
  obtain ⟨k, h1, t1, g1, k0, k1⟩ := take_good (many := 5) g (by decide) (by decide)
  by_cases z0 : k = 0
  · subst z0
    obtain ⟨r, h2, t2, g2, r0, r1⟩ := take_good (many := 10) g1 (by decide) (by decide)
    obtain ⟨u, hu, hm⟩ := at_lt (xs := [D.bl true, .int 0, .int (-2), .int 4, .int 5, .non, .str "2", .tup [.int 2], .int 1, .int (-3)]) r0 r1
    refine ⟨u, .lst (nums md), h2, spoil_0 F__law_take t1 t2 hu, g2, .inl ?_⟩
    simp only [List.mem_cons, List.not_mem_nil, or_false] at hm
    unfold oddP
    rcases hm with rfl | rfl | rfl | rfl | rfl | rfl | rfl | rfl | rfl | rfl <;> simp
  by_cases z1 : k = 1
  · subst z1
    obtain ⟨r, h2, t2, g2, r0, r1⟩ := take_good (many := 5) g1 (by decide) (by decide)
    obtain ⟨u, hu, hm⟩ := at_lt (xs := [D.non, .str "11", .int 3, .dic [] [], .bl true]) r0 r1
    refine ⟨.int q, u, h2, spoil_1 F__law_take t1 t2 hu, g2, .inr ⟨q, hq, rfl, .inl ?_⟩⟩
    simp only [List.mem_cons, List.not_mem_nil, or_false] at hm
    unfold oddM
    exact hm
  have ld := len_div (l := (nums md).length) (by omega) (by omega)
  obtain ⟨a, h2, t2, g2, a0, a1⟩ := take_good (many := (nums md).length) g1 ld.1 ld.2
  obtain ⟨r, h3, t3, g3, r0, r1⟩ := take_good (many := 8) g2 (by decide) (by decide)
  obtain ⟨u, hu, hm⟩ := at_lt (xs := [D.int q, .int (-1), .bl true, .non, .str "1", .tup [.int 1], .int 100000000000000000000, .bl false]) r0 r1
  have up := drawn_plain hm
  obtain ⟨i, ix⟩ := ix_lt a0 a1
  by_cases z2 : k = 2
  · subst z2
    obtain ⟨s, h4, t4, g4, s0, s1⟩ := take_good (many := 3) g3 (by decide) (by decide)
    obtain ⟨v, hv, hvm⟩ := at_lt (xs := [D.bl true, .int 4, .str "3"]) s0 s1
    refine ⟨v, .lst ((nums md).set i u), h4, spoil_2 F__law_take t1 t2 t3 hu ix t4 hv, g4, .inl ?_⟩
    simp only [List.mem_cons, List.not_mem_nil, or_false] at hvm
    unfold oddP
    rcases hvm with rfl | rfl | rfl <;> simp
  have pl : ∀ x ∈ (nums md).set i u, plainI x = true := by
    intro x hx
    rcases List.mem_or_eq_of_mem_set hx with h | rfl
    · exact nums_pl x h
    · exact up
  refine ⟨.int q, _, h3, spoil_3 F__law_take t1 (by omega) t2 t3 hu ix, g3, .inr ⟨q, hq, rfl, .inr ⟨(nums md).set i u, ?_, by rw [List.length_set]; omega, pl⟩⟩⟩
  by_cases z3 : k = 3
  · rw [if_pos z3]; exact .inr rfl
  · rw [if_neg z3]; exact .inl rfl
/-! ### free digits -/
theorem free_frame (FT : List D → Rf) {h h1 h2 h3 h4 q : D} {el : M Tk} {xs : List D} {r r1 r2 r4 : Int} {n : Int} (t1 : FT [h, .int 4] = .ok false (.int r) h1) (t2 : FT [h1, .int 8] = .ok false (.int r1) h2)
    (t3 : (¬ r1 = 0 ∧ h3 = h2 ∧ n = 2 + r) ∨ (r1 = 0 ∧ FT [h2, .int 2] = .ok false (.int r2) h3 ∧ atI [D.int 1, .int 6] r2 = some (.int n))) (ok : okR n = true)
    (lc : mLcLoop (gN 4) [4] mYes el (rngD 0 n.toNat) [] [.ow h3, .sh q, .sh (.int n), .no, .no] = .ok xs [.ow h4, .sh q, .sh (.int n), .no, .no]) {h5 : D} (t4 : FT [h4, .int 4] = .ok false (.int r4) h5) {j : Nat} (ix : ixN xs.length (-1) = some j) :
    mkIO 5 ((mSeq (mAsg 2 (mBin dAdd (mC (.int 2)) (mCallIO FT 0 (mCons (mC (.int 4)) mNil))))
  (mSeq (mIfS (mCmp cEq (mCallIO FT 0 (mCons (mC (.int 8)) mNil)) (mC (.int 0))) (mAsg 2 (mBin dIx (mTup (mCons (mC (.int 1)) (mCons (mC (.int 6)) mNil))) (mCallIO FT 0 (mCons (mC (.int 2)) mNil)))) mNext)
  (mSeq (mAsg 3 (mLc (mRng (mCons (mVar 2) mNil)) (gN 4) [4] mYes el))
  (mSeq (mIfS (mCmp cGt (mCallIO FT 0 (mCons (mC (.int 4)) mNil)) (mC (.int 0))) (mSetI 3 (mUn dNeg (mC (.int 1))) (mC (.int 1))) mNext)
  (mRet (mVar 3))))))) [h, q] = .ok true (.lst (if r4 > 0 then xs.set j (.int 1) else xs)) h5 := by
  rcases t3 with ⟨t3, rfl, rfl⟩ | ⟨rfl, t3, x⟩
  · by_cases p : r4 > 0 <;> simp only [bindR_ok, bindR_ex, a_bind, a_of_some, a_var, a_c, a_bin, a_un, a_test, a_tru, a_cmp, a_and, a_or, a_not, a_if, a_andV, a_orV, a_notV, a_bl, a_nil, a_cons, a_tup, a_lst, a_call, a_callF, a_callIO, a_seq, a_next, a_ret, a_retN, a_drop, a_break, a_cont, a_ifS, a_asg, a_asgG, a_app, a_setI, a_iter, a_rng, a_for, a_slice, a_part0, a_part1, a_lc, a_yes, l_val, l_new, l_slot, f_val, f_new, f_slot, t_val, t_new, t_slot, s_val, s_new, s_slot, a_look2, a_look1, a_fa0, a_fa1, a_la0, a_la1, a_fn1, a_fn2, a_gN, a_gs0, a_gs1, a_gT, a_turn, a_fg0, a_fg1, a_wp0, a_wp1, a_rs0, a_rs1, a_mkF, a_mkIO, a_owL, a_owD, a_tkT, a_tkF, a_apf, a_apb, a_apn, a_aps, e_addI, e_subI, e_mulI, e_divI, e_modI, e_negI, e_lt, e_le, e_gt, e_ge, e_is, e_isnot, a_lift, e_lenL, e_lenT, e_lenS, e_intI, e_intB, e_absI, e_truB, e_truI, e_truN, e_truL, e_truT, e_ixL, e_ixT, e_tupL, e_tupT, e_lstL, e_lstT, e_sum, cEq_int, cNe_int, fin_nx, fin_val, fin_new, fin_slot, fin_ex, finIO_nx, finIO_val, finIO_new, finIO_slot, finIO_ex, entry_eq, entryIO_eq, atI_0, atI_1, atI_2, atI_3, Option.map_some, List.set_cons_zero, List.set_cons_succ, List.getElem?_cons_zero, List.getElem?_cons_succ, List.getElem?_nil, List.getD_cons_zero, List.getD_cons_succ, List.map_cons, List.map_nil, List.length_cons, List.length_nil, List.length_map, List.replicate, List.cons_append, List.nil_append, Nat.reduceAdd, Nat.reduceSub, Nat.reduceLeDiff, Nat.reduceLT, Nat.zero_le, Int.reduceLT, Int.reduceLE, Int.reduceEq, Int.reduceNeg, if_true, if_false, Bool.false_eq_true, Bool.true_eq_false, reduceIte, Bool.or_true, Bool.true_or, Bool.false_or, Bool.or_false, Bool.and_true, Bool.and_false, Bool.true_and, Bool.false_and, Bool.not_true, Bool.not_false, decide_true, decide_false, decide_eq_true_eq, and_self, not_true_eq_false, not_false_eq_true, ite_self, a_try_ok, a_raise0, a_raise, a_h0, a_h1, a_en0, a_en1, a_se_nx, a_se_rt, a_lv0, a_lv1, a_un0, a_un1, a_cx0, a_cx1, a_cx2, a_cx3, a_xf, a_pad, a_walk, a_rev, a_par, a_chain, a_chainB, w_enum, w_zipL, w_zipT, e_max, e_min, e_and, e_sumA, e_sumAT, List.reverse_cons, List.reverse_nil, List.zip_cons_cons, List.zip_nil_left, List.zip_nil_right, a_mIndex, a_fld, a_callT, a_methD, a_make, a_val, a_newD, w_enumL, w_enumT, a_apT, a_apG, a_apL, e_ixG, e_tupF, a_no0, a_no1, e_sliceL, e_sliceT, a_ins, a_cat, e_revL, List.nil_append, List.reverse_nil, subE_BadField_BadField, in_xs_0_BadField, fc_modulus_Field, fc_size_Field, fc_prime_Field, fc_degree_Field, fc_digit_rows_Field, fc_sum_rows_Field, fc_product_rows_Field, fc_negatives_Field, fc_inverses_Field, fc_step_row_Field, subXs_BadField_RankError, subXs_BadField_ValueError, subXs_BadField_BadThing, tf_m_raised_Field_Field, tf_eq_Field, t1, t2, t3, ok, lc, t4, p, ix]
  · by_cases p : r4 > 0 <;> simp only [bindR_ok, bindR_ex, a_bind, a_of_some, a_var, a_c, a_bin, a_un, a_test, a_tru, a_cmp, a_and, a_or, a_not, a_if, a_andV, a_orV, a_notV, a_bl, a_nil, a_cons, a_tup, a_lst, a_call, a_callF, a_callIO, a_seq, a_next, a_ret, a_retN, a_drop, a_break, a_cont, a_ifS, a_asg, a_asgG, a_app, a_setI, a_iter, a_rng, a_for, a_slice, a_part0, a_part1, a_lc, a_yes, l_val, l_new, l_slot, f_val, f_new, f_slot, t_val, t_new, t_slot, s_val, s_new, s_slot, a_look2, a_look1, a_fa0, a_fa1, a_la0, a_la1, a_fn1, a_fn2, a_gN, a_gs0, a_gs1, a_gT, a_turn, a_fg0, a_fg1, a_wp0, a_wp1, a_rs0, a_rs1, a_mkF, a_mkIO, a_owL, a_owD, a_tkT, a_tkF, a_apf, a_apb, a_apn, a_aps, e_addI, e_subI, e_mulI, e_divI, e_modI, e_negI, e_lt, e_le, e_gt, e_ge, e_is, e_isnot, a_lift, e_lenL, e_lenT, e_lenS, e_intI, e_intB, e_absI, e_truB, e_truI, e_truN, e_truL, e_truT, e_ixL, e_ixT, e_tupL, e_tupT, e_lstL, e_lstT, e_sum, cEq_int, cNe_int, fin_nx, fin_val, fin_new, fin_slot, fin_ex, finIO_nx, finIO_val, finIO_new, finIO_slot, finIO_ex, entry_eq, entryIO_eq, atI_0, atI_1, atI_2, atI_3, Option.map_some, List.set_cons_zero, List.set_cons_succ, List.getElem?_cons_zero, List.getElem?_cons_succ, List.getElem?_nil, List.getD_cons_zero, List.getD_cons_succ, List.map_cons, List.map_nil, List.length_cons, List.length_nil, List.length_map, List.replicate, List.cons_append, List.nil_append, Nat.reduceAdd, Nat.reduceSub, Nat.reduceLeDiff, Nat.reduceLT, Nat.zero_le, Int.reduceLT, Int.reduceLE, Int.reduceEq, Int.reduceNeg, if_true, if_false, Bool.false_eq_true, Bool.true_eq_false, reduceIte, Bool.or_true, Bool.true_or, Bool.false_or, Bool.or_false, Bool.and_true, Bool.and_false, Bool.true_and, Bool.false_and, Bool.not_true, Bool.not_false, decide_true, decide_false, decide_eq_true_eq, and_self, not_true_eq_false, not_false_eq_true, ite_self, a_try_ok, a_raise0, a_raise, a_h0, a_h1, a_en0, a_en1, a_se_nx, a_se_rt, a_lv0, a_lv1, a_un0, a_un1, a_cx0, a_cx1, a_cx2, a_cx3, a_xf, a_pad, a_walk, a_rev, a_par, a_chain, a_chainB, w_enum, w_zipL, w_zipT, e_max, e_min, e_and, e_sumA, e_sumAT, List.reverse_cons, List.reverse_nil, List.zip_cons_cons, List.zip_nil_left, List.zip_nil_right, a_mIndex, a_fld, a_callT, a_methD, a_make, a_val, a_newD, w_enumL, w_enumT, a_apT, a_apG, a_apL, e_ixG, e_tupF, a_no0, a_no1, e_sliceL, e_sliceT, a_ins, a_cat, e_revL, List.nil_append, List.reverse_nil, subE_BadField_BadField, in_xs_0_BadField, fc_modulus_Field, fc_size_Field, fc_prime_Field, fc_degree_Field, fc_digit_rows_Field, fc_sum_rows_Field, fc_product_rows_Field, fc_negatives_Field, fc_inverses_Field, fc_step_row_Field, subXs_BadField_RankError, subXs_BadField_ValueError, subXs_BadField_BadThing, tf_m_raised_Field_Field, tf_eq_Field, t1, t2, t3, x, ok, lc, t4, p, ix]
theorem digit_draw (FT : List D → Rf) {h h1 q x2 x4 : D} {s3 : S} {r : Int} (t : FT [h, q] = .ok false (.int r) h1) : mCallIO FT 0 (mCons (mVar 1) mNil) [.ow h, .sh q, .sh x2, s3, .sh x4] = .ok (.val (.int r)) [.ow h1, .sh q, .sh x2, s3, .sh x4] := by
  simp only [bindR_ok, bindR_ex, a_bind, a_of_some, a_var, a_c, a_bin, a_un, a_test, a_tru, a_cmp, a_and, a_or, a_not, a_if, a_andV, a_orV, a_notV, a_bl, a_nil, a_cons, a_tup, a_lst, a_call, a_callF, a_callIO, a_seq, a_next, a_ret, a_retN, a_drop, a_break, a_cont, a_ifS, a_asg, a_asgG, a_app, a_setI, a_iter, a_rng, a_for, a_slice, a_part0, a_part1, a_lc, a_yes, l_val, l_new, l_slot, f_val, f_new, f_slot, t_val, t_new, t_slot, s_val, s_new, s_slot, a_look2, a_look1, a_fa0, a_fa1, a_la0, a_la1, a_fn1, a_fn2, a_gN, a_gs0, a_gs1, a_gT, a_turn, a_fg0, a_fg1, a_wp0, a_wp1, a_rs0, a_rs1, a_mkF, a_mkIO, a_owL, a_owD, a_tkT, a_tkF, a_apf, a_apb, a_apn, a_aps, e_addI, e_subI, e_mulI, e_divI, e_modI, e_negI, e_lt, e_le, e_gt, e_ge, e_is, e_isnot, a_lift, e_lenL, e_lenT, e_lenS, e_intI, e_intB, e_absI, e_truB, e_truI, e_truN, e_truL, e_truT, e_ixL, e_ixT, e_tupL, e_tupT, e_lstL, e_lstT, e_sum, cEq_int, cNe_int, fin_nx, fin_val, fin_new, fin_slot, fin_ex, finIO_nx, finIO_val, finIO_new, finIO_slot, finIO_ex, entry_eq, entryIO_eq, atI_0, atI_1, atI_2, atI_3, Option.map_some, List.set_cons_zero, List.set_cons_succ, List.getElem?_cons_zero, List.getElem?_cons_succ, List.getElem?_nil, List.getD_cons_zero, List.getD_cons_succ, List.map_cons, List.map_nil, List.length_cons, List.length_nil, List.length_map, List.replicate, List.cons_append, List.nil_append, Nat.reduceAdd, Nat.reduceSub, Nat.reduceLeDiff, Nat.reduceLT, Nat.zero_le, Int.reduceLT, Int.reduceLE, Int.reduceEq, Int.reduceNeg, if_true, if_false, Bool.false_eq_true, Bool.true_eq_false, reduceIte, Bool.or_true, Bool.true_or, Bool.false_or, Bool.or_false, Bool.and_true, Bool.and_false, Bool.true_and, Bool.false_and, Bool.not_true, Bool.not_false, decide_true, decide_false, decide_eq_true_eq, and_self, not_true_eq_false, not_false_eq_true, ite_self, a_try_ok, a_raise0, a_raise, a_h0, a_h1, a_en0, a_en1, a_se_nx, a_se_rt, a_lv0, a_lv1, a_un0, a_un1, a_cx0, a_cx1, a_cx2, a_cx3, a_xf, a_pad, a_walk, a_rev, a_par, a_chain, a_chainB, w_enum, w_zipL, w_zipT, e_max, e_min, e_and, e_sumA, e_sumAT, List.reverse_cons, List.reverse_nil, List.zip_cons_cons, List.zip_nil_left, List.zip_nil_right, a_mIndex, a_fld, a_callT, a_methD, a_make, a_val, a_newD, w_enumL, w_enumT, a_apT, a_apG, a_apL, e_ixG, e_tupF, a_no0, a_no1, e_sliceL, e_sliceT, a_ins, a_cat, e_revL, List.nil_append, List.reverse_nil, subE_BadField_BadField, in_xs_0_BadField, fc_modulus_Field, fc_size_Field, fc_prime_Field, fc_degree_Field, fc_digit_rows_Field, fc_sum_rows_Field, fc_product_rows_Field, fc_negatives_Field, fc_inverses_Field, fc_step_row_Field, subXs_BadField_RankError, subXs_BadField_ValueError, subXs_BadField_BadThing, tf_m_raised_Field_Field, tf_eq_Field, t]
theorem ix_last {n : Nat} (h : 0 < n) : ixN n (-1) = some (n - 1) := by
  unfold ixN
  rw [if_neg (by decide), if_pos (by omega)]
  congr 1
  omega
theorem free_good {h : D} (g : GoodHand h) {q : Nat} (hq : q = 2 ∨ q = 3) : ∃ xs h', F__law_free [h, .int q] = .ok true (.lst xs) h' ∧ GoodHand h' ∧ xs.length ≤ 6 ∧ ∀ x ∈ xs, plainI x = true := by
  obtain ⟨r, h1, t1, g1, r0, r1⟩ := take_good (many := 4) g (by decide) (by decide)
  obtain ⟨e, h2, t2, g2, e0, e1⟩ := take_good (many := 8) g1 (by decide) (by decide)
  obtain ⟨n, r2, h3, t3, g3, n1, n6⟩ : ∃ (n r2 : Int) (h3 : D), ((¬ e = 0 ∧ h3 = h2 ∧ n = 2 + r) ∨ (e = 0 ∧ F__law_take [h2, .int 2] = .ok false (.int r2) h3 ∧ atI [D.int 1, .int 6] r2 = some (.int n))) ∧ GoodHand h3 ∧ 1 ≤ n ∧ n ≤ 6 := by
    by_cases z : e = 0
    · obtain ⟨r2, h3, t3, g3, s0, s1⟩ := take_good (many := 2) g2 (by decide) (by decide)
      obtain ⟨u, hu, hm⟩ := at_lt (xs := [D.int 1, .int 6]) s0 s1
      simp only [List.mem_cons, List.not_mem_nil, or_false] at hm
      rcases hm with rfl | rfl
      · exact ⟨1, r2, h3, .inr ⟨z, t3, hu⟩, g3, by decide, by decide⟩
      · exact ⟨6, r2, h3, .inr ⟨z, t3, hu⟩, g3, by decide, by decide⟩
    · exact ⟨2 + r, 0, h2, .inl ⟨z, rfl, rfl⟩, g2, by omega, by omega⟩
  obtain ⟨N, rfl⟩ : ∃ N : Nat, n = N := ⟨n.toNat, by omega⟩
  have qd := small_ok hq
  obtain ⟨xs, E, lc, ⟨h4, g4, rfl⟩, hx, hxl⟩ := lc_draw (g := gN 4) (own := [4]) (test := mYes) (elt := L__law_free_1) (fun E => ∃ h', GoodHand h' ∧ E = [.ow h', .sh (.int q), .sh (.int (N : Int)), .no, .no]) (fun x => plainI x = true) (rngD 0 N) [] (E := [.ow h3, .sh (.int q), .sh (.int (N : Int)), .no, .no]) (by rw [rng_len, List.length_nil]; unfold lim; omega) ⟨h3, g3, rfl⟩ (fun d E hd hE => by
    obtain ⟨h', g', rfl⟩ := hE
    obtain ⟨s, h'', ts, gs, s0, s1⟩ := take_good (many := (q : Int)) g' (by omega) qd.2
    exact ⟨.int s, [.ow h'', .sh (.int q), .sh (.int (N : Int)), .no, .no], ⟨[.ow h', .sh (.int q), .sh (.int (N : Int)), .no, .sh d], [.ow h', .sh (.int q), .sh (.int (N : Int)), .no, .sh d], .val (.int s), [.ow h'', .sh (.int q), .sh (.int (N : Int)), .no, .sh d], [.ow h'', .sh (.int q), .sh (.int (N : Int)), .no, .sh d], rfl, rfl, digit_draw F__law_take ts, rfl, rfl⟩, rfl, ⟨h'', gs, rfl⟩⟩) (fun d hd => by cases hd)
  rw [List.nil_append] at lc
  rw [rng_len] at hxl
  obtain ⟨r4, h5, t4, g5, p0, p1⟩ := take_good (many := 4) g4 (by decide) (by decide)
  have ok : okR (N : Int) = true := okN (by omega)
  have tn : (N : Int).toNat = N := Int.toNat_natCast N
  refine ⟨_, h5, free_frame F__law_take t1 t2 t3 ok (el := L__law_free_1) (by rw [tn]; exact lc) t4 (ix_last (by omega)), g5, ?_, ?_⟩
  · split
    · rw [List.length_set]; omega
    · omega
  · intro x hx1
    split at hx1
    · rcases List.mem_or_eq_of_mem_set hx1 with h | rfl
      · exact hx x h
      · rfl
    · exact hx x hx1
section
variable (FF FT FS FR : List D → Rf) {h h1 h2 h3 h4 q P M : D} {ms xs : List D} {k r : Int}
theorem drawn_0 (f : FF [h, .int 4] = .ok false (.tup [q, .tup ms]) h1) (t : FT [h1, .int 4] = .ok false (.int 0) h2) :
    mkIO 4 ((mSeq (mAsgG (gT 2 (gs1 (gN 1) (gs1 (gN 2) gs0))) (mCallIO FF 0 (mCons (mC (.int 4)) mNil)))
  (mSeq (mAsg 3 (mCallIO FT 0 (mCons (mC (.int 4)) mNil)))
  (mSeq (mIfS (mCmp cEq (mVar 3) (mC (.int 0))) (mRet (mTup (mCons (mVar 1) (mCons (mCall (fn1 dTuple) (mCons (mVar 2) mNil)) mNil)))) mNext)
  (mSeq (mIfS (mCmp cEq (mVar 3) (mC (.int 1))) (mRet (mCallIO FS 0 (mCons (mVar 1) (mCons (mVar 2) mNil)))) mNext)
  (mSeq (mAsg 1 (mBin dAdd (mC (.int 2)) (mCallIO FT 0 (mCons (mC (.int 2)) mNil))))
  (mRet (mTup (mCons (mVar 1) (mCons (mCallIO FR 0 (mCons (mVar 1) mNil)) mNil)))))))))) [h] = .ok false (.tup [q, .tup ms]) h2 := by
  simp only [bindR_ok, bindR_ex, a_bind, a_of_some, a_var, a_c, a_bin, a_un, a_test, a_tru, a_cmp, a_and, a_or, a_not, a_if, a_andV, a_orV, a_notV, a_bl, a_nil, a_cons, a_tup, a_lst, a_call, a_callF, a_callIO, a_seq, a_next, a_ret, a_retN, a_drop, a_break, a_cont, a_ifS, a_asg, a_asgG, a_app, a_setI, a_iter, a_rng, a_for, a_slice, a_part0, a_part1, a_lc, a_yes, l_val, l_new, l_slot, f_val, f_new, f_slot, t_val, t_new, t_slot, s_val, s_new, s_slot, a_look2, a_look1, a_fa0, a_fa1, a_la0, a_la1, a_fn1, a_fn2, a_gN, a_gs0, a_gs1, a_gT, a_turn, a_fg0, a_fg1, a_wp0, a_wp1, a_rs0, a_rs1, a_mkF, a_mkIO, a_owL, a_owD, a_tkT, a_tkF, a_apf, a_apb, a_apn, a_aps, e_addI, e_subI, e_mulI, e_divI, e_modI, e_negI, e_lt, e_le, e_gt, e_ge, e_is, e_isnot, a_lift, e_lenL, e_lenT, e_lenS, e_intI, e_intB, e_absI, e_truB, e_truI, e_truN, e_truL, e_truT, e_ixL, e_ixT, e_tupL, e_tupT, e_lstL, e_lstT, e_sum, cEq_int, cNe_int, fin_nx, fin_val, fin_new, fin_slot, fin_ex, finIO_nx, finIO_val, finIO_new, finIO_slot, finIO_ex, entry_eq, entryIO_eq, atI_0, atI_1, atI_2, atI_3, Option.map_some, List.set_cons_zero, List.set_cons_succ, List.getElem?_cons_zero, List.getElem?_cons_succ, List.getElem?_nil, List.getD_cons_zero, List.getD_cons_succ, List.map_cons, List.map_nil, List.length_cons, List.length_nil, List.length_map, List.replicate, List.cons_append, List.nil_append, Nat.reduceAdd, Nat.reduceSub, Nat.reduceLeDiff, Nat.reduceLT, Nat.zero_le, Int.reduceLT, Int.reduceLE, Int.reduceEq, Int.reduceNeg, if_true, if_false, Bool.false_eq_true, Bool.true_eq_false, reduceIte, Bool.or_true, Bool.true_or, Bool.false_or, Bool.or_false, Bool.and_true, Bool.and_false, Bool.true_and, Bool.false_and, Bool.not_true, Bool.not_false, decide_true, decide_false, decide_eq_true_eq, and_self, not_true_eq_false, not_false_eq_true, ite_self, a_try_ok, a_raise0, a_raise, a_h0, a_h1, a_en0, a_en1, a_se_nx, a_se_rt, a_lv0, a_lv1, a_un0, a_un1, a_cx0, a_cx1, a_cx2, a_cx3, a_xf, a_pad, a_walk, a_rev, a_par, a_chain, a_chainB, w_enum, w_zipL, w_zipT, e_max, e_min, e_and, e_sumA, e_sumAT, List.reverse_cons, List.reverse_nil, List.zip_cons_cons, List.zip_nil_left, List.zip_nil_right, a_mIndex, a_fld, a_callT, a_methD, a_make, a_val, a_newD, w_enumL, w_enumT, a_apT, a_apG, a_apL, e_ixG, e_tupF, a_no0, a_no1, e_sliceL, e_sliceT, a_ins, a_cat, e_revL, List.nil_append, List.reverse_nil, subE_BadField_BadField, in_xs_0_BadField, fc_modulus_Field, fc_size_Field, fc_prime_Field, fc_degree_Field, fc_digit_rows_Field, fc_sum_rows_Field, fc_product_rows_Field, fc_negatives_Field, fc_inverses_Field, fc_step_row_Field, subXs_BadField_RankError, subXs_BadField_ValueError, subXs_BadField_BadThing, tf_m_raised_Field_Field, tf_eq_Field, f, t]
theorem drawn_1 (f : FF [h, .int 4] = .ok false (.tup [q, .tup ms]) h1) (t : FT [h1, .int 4] = .ok false (.int 1) h2) (s : FS [h2, q, .tup ms] = .ok false (.tup [P, M]) h3) :
    mkIO 4 ((mSeq (mAsgG (gT 2 (gs1 (gN 1) (gs1 (gN 2) gs0))) (mCallIO FF 0 (mCons (mC (.int 4)) mNil)))
  (mSeq (mAsg 3 (mCallIO FT 0 (mCons (mC (.int 4)) mNil)))
  (mSeq (mIfS (mCmp cEq (mVar 3) (mC (.int 0))) (mRet (mTup (mCons (mVar 1) (mCons (mCall (fn1 dTuple) (mCons (mVar 2) mNil)) mNil)))) mNext)
  (mSeq (mIfS (mCmp cEq (mVar 3) (mC (.int 1))) (mRet (mCallIO FS 0 (mCons (mVar 1) (mCons (mVar 2) mNil)))) mNext)
  (mSeq (mAsg 1 (mBin dAdd (mC (.int 2)) (mCallIO FT 0 (mCons (mC (.int 2)) mNil))))
  (mRet (mTup (mCons (mVar 1) (mCons (mCallIO FR 0 (mCons (mVar 1) mNil)) mNil)))))))))) [h] = .ok false (.tup [P, M]) h3 := by
  simp only [bindR_ok, bindR_ex, a_bind, a_of_some, a_var, a_c, a_bin, a_un, a_test, a_tru, a_cmp, a_and, a_or, a_not, a_if, a_andV, a_orV, a_notV, a_bl, a_nil, a_cons, a_tup, a_lst, a_call, a_callF, a_callIO, a_seq, a_next, a_ret, a_retN, a_drop, a_break, a_cont, a_ifS, a_asg, a_asgG, a_app, a_setI, a_iter, a_rng, a_for, a_slice, a_part0, a_part1, a_lc, a_yes, l_val, l_new, l_slot, f_val, f_new, f_slot, t_val, t_new, t_slot, s_val, s_new, s_slot, a_look2, a_look1, a_fa0, a_fa1, a_la0, a_la1, a_fn1, a_fn2, a_gN, a_gs0, a_gs1, a_gT, a_turn, a_fg0, a_fg1, a_wp0, a_wp1, a_rs0, a_rs1, a_mkF, a_mkIO, a_owL, a_owD, a_tkT, a_tkF, a_apf, a_apb, a_apn, a_aps, e_addI, e_subI, e_mulI, e_divI, e_modI, e_negI, e_lt, e_le, e_gt, e_ge, e_is, e_isnot, a_lift, e_lenL, e_lenT, e_lenS, e_intI, e_intB, e_absI, e_truB, e_truI, e_truN, e_truL, e_truT, e_ixL, e_ixT, e_tupL, e_tupT, e_lstL, e_lstT, e_sum, cEq_int, cNe_int, fin_nx, fin_val, fin_new, fin_slot, fin_ex, finIO_nx, finIO_val, finIO_new, finIO_slot, finIO_ex, entry_eq, entryIO_eq, atI_0, atI_1, atI_2, atI_3, Option.map_some, List.set_cons_zero, List.set_cons_succ, List.getElem?_cons_zero, List.getElem?_cons_succ, List.getElem?_nil, List.getD_cons_zero, List.getD_cons_succ, List.map_cons, List.map_nil, List.length_cons, List.length_nil, List.length_map, List.replicate, List.cons_append, List.nil_append, Nat.reduceAdd, Nat.reduceSub, Nat.reduceLeDiff, Nat.reduceLT, Nat.zero_le, Int.reduceLT, Int.reduceLE, Int.reduceEq, Int.reduceNeg, if_true, if_false, Bool.false_eq_true, Bool.true_eq_false, reduceIte, Bool.or_true, Bool.true_or, Bool.false_or, Bool.or_false, Bool.and_true, Bool.and_false, Bool.true_and, Bool.false_and, Bool.not_true, Bool.not_false, decide_true, decide_false, decide_eq_true_eq, and_self, not_true_eq_false, not_false_eq_true, ite_self, a_try_ok, a_raise0, a_raise, a_h0, a_h1, a_en0, a_en1, a_se_nx, a_se_rt, a_lv0, a_lv1, a_un0, a_un1, a_cx0, a_cx1, a_cx2, a_cx3, a_xf, a_pad, a_walk, a_rev, a_par, a_chain, a_chainB, w_enum, w_zipL, w_zipT, e_max, e_min, e_and, e_sumA, e_sumAT, List.reverse_cons, List.reverse_nil, List.zip_cons_cons, List.zip_nil_left, List.zip_nil_right, a_mIndex, a_fld, a_callT, a_methD, a_make, a_val, a_newD, w_enumL, w_enumT, a_apT, a_apG, a_apL, e_ixG, e_tupF, a_no0, a_no1, e_sliceL, e_sliceT, a_ins, a_cat, e_revL, List.nil_append, List.reverse_nil, subE_BadField_BadField, in_xs_0_BadField, fc_modulus_Field, fc_size_Field, fc_prime_Field, fc_degree_Field, fc_digit_rows_Field, fc_sum_rows_Field, fc_product_rows_Field, fc_negatives_Field, fc_inverses_Field, fc_step_row_Field, subXs_BadField_RankError, subXs_BadField_ValueError, subXs_BadField_BadThing, tf_m_raised_Field_Field, tf_eq_Field, f, t, s]
theorem drawn_2 (f : FF [h, .int 4] = .ok false (.tup [q, .tup ms]) h1) (t : FT [h1, .int 4] = .ok false (.int k) h2) (k0 : ¬ k = 0) (k1 : ¬ k = 1) (t2 : FT [h2, .int 2] = .ok false (.int r) h3) (s : FR [h3, .int (2 + r)] = .ok true (.lst xs) h4) :
    mkIO 4 ((mSeq (mAsgG (gT 2 (gs1 (gN 1) (gs1 (gN 2) gs0))) (mCallIO FF 0 (mCons (mC (.int 4)) mNil)))
  (mSeq (mAsg 3 (mCallIO FT 0 (mCons (mC (.int 4)) mNil)))
  (mSeq (mIfS (mCmp cEq (mVar 3) (mC (.int 0))) (mRet (mTup (mCons (mVar 1) (mCons (mCall (fn1 dTuple) (mCons (mVar 2) mNil)) mNil)))) mNext)
  (mSeq (mIfS (mCmp cEq (mVar 3) (mC (.int 1))) (mRet (mCallIO FS 0 (mCons (mVar 1) (mCons (mVar 2) mNil)))) mNext)
  (mSeq (mAsg 1 (mBin dAdd (mC (.int 2)) (mCallIO FT 0 (mCons (mC (.int 2)) mNil))))
  (mRet (mTup (mCons (mVar 1) (mCons (mCallIO FR 0 (mCons (mVar 1) mNil)) mNil)))))))))) [h] = .ok false (.tup [.int (2 + r), .lst xs]) h4 := by
  simp only [bindR_ok, bindR_ex, a_bind, a_of_some, a_var, a_c, a_bin, a_un, a_test, a_tru, a_cmp, a_and, a_or, a_not, a_if, a_andV, a_orV, a_notV, a_bl, a_nil, a_cons, a_tup, a_lst, a_call, a_callF, a_callIO, a_seq, a_next, a_ret, a_retN, a_drop, a_break, a_cont, a_ifS, a_asg, a_asgG, a_app, a_setI, a_iter, a_rng, a_for, a_slice, a_part0, a_part1, a_lc, a_yes, l_val, l_new, l_slot, f_val, f_new, f_slot, t_val, t_new, t_slot, s_val, s_new, s_slot, a_look2, a_look1, a_fa0, a_fa1, a_la0, a_la1, a_fn1, a_fn2, a_gN, a_gs0, a_gs1, a_gT, a_turn, a_fg0, a_fg1, a_wp0, a_wp1, a_rs0, a_rs1, a_mkF, a_mkIO, a_owL, a_owD, a_tkT, a_tkF, a_apf, a_apb, a_apn, a_aps, e_addI, e_subI, e_mulI, e_divI, e_modI, e_negI, e_lt, e_le, e_gt, e_ge, e_is, e_isnot, a_lift, e_lenL, e_lenT, e_lenS, e_intI, e_intB, e_absI, e_truB, e_truI, e_truN, e_truL, e_truT, e_ixL, e_ixT, e_tupL, e_tupT, e_lstL, e_lstT, e_sum, cEq_int, cNe_int, fin_nx, fin_val, fin_new, fin_slot, fin_ex, finIO_nx, finIO_val, finIO_new, finIO_slot, finIO_ex, entry_eq, entryIO_eq, atI_0, atI_1, atI_2, atI_3, Option.map_some, List.set_cons_zero, List.set_cons_succ, List.getElem?_cons_zero, List.getElem?_cons_succ, List.getElem?_nil, List.getD_cons_zero, List.getD_cons_succ, List.map_cons, List.map_nil, List.length_cons, List.length_nil, List.length_map, List.replicate, List.cons_append, List.nil_append, Nat.reduceAdd, Nat.reduceSub, Nat.reduceLeDiff, Nat.reduceLT, Nat.zero_le, Int.reduceLT, Int.reduceLE, Int.reduceEq, Int.reduceNeg, if_true, if_false, Bool.false_eq_true, Bool.true_eq_false, reduceIte, Bool.or_true, Bool.true_or, Bool.false_or, Bool.or_false, Bool.and_true, Bool.and_false, Bool.true_and, Bool.false_and, Bool.not_true, Bool.not_false, decide_true, decide_false, decide_eq_true_eq, and_self, not_true_eq_false, not_false_eq_true, ite_self, a_try_ok, a_raise0, a_raise, a_h0, a_h1, a_en0, a_en1, a_se_nx, a_se_rt, a_lv0, a_lv1, a_un0, a_un1, a_cx0, a_cx1, a_cx2, a_cx3, a_xf, a_pad, a_walk, a_rev, a_par, a_chain, a_chainB, w_enum, w_zipL, w_zipT, e_max, e_min, e_and, e_sumA, e_sumAT, List.reverse_cons, List.reverse_nil, List.zip_cons_cons, List.zip_nil_left, List.zip_nil_right, a_mIndex, a_fld, a_callT, a_methD, a_make, a_val, a_newD, w_enumL, w_enumT, a_apT, a_apG, a_apL, e_ixG, e_tupF, a_no0, a_no1, e_sliceL, e_sliceT, a_ins, a_cat, e_revL, List.nil_append, List.reverse_nil, subE_BadField_BadField, in_xs_0_BadField, fc_modulus_Field, fc_size_Field, fc_prime_Field, fc_degree_Field, fc_digit_rows_Field, fc_sum_rows_Field, fc_product_rows_Field, fc_negatives_Field, fc_inverses_Field, fc_step_row_Field, subXs_BadField_RankError, subXs_BadField_ValueError, subXs_BadField_BadThing, tf_m_raised_Field_Field, tf_eq_Field, f, t, k0, k1, t2, s]
end
theorem drawn_good {h : D} (g : GoodHand h) : ∃ P M h', F__law_drawn [h] = .ok false (.tup [P, M]) h' ∧ GoodHand h' ∧ Pair P M := by
  obtain ⟨q, md, h1, f, hf, g1⟩ := figure_good g
  have b := bas_of (List.all_eq_true.mp bas_F _ f)
  obtain ⟨c1, c2, hq⟩ : 2 ≤ md.length ∧ md.length ≤ 5 ∧ (q = 2 ∨ q = 3) := ⟨b.c1, b.c2, b.h⟩
  obtain ⟨k, h2, t, g2, k0, k1⟩ := take_good (many := 4) g1 (by decide) (by decide)
  by_cases z0 : k = 0
  · subst z0
    exact ⟨_, _, h2, drawn_0 F__law_figure F__law_take F__law_spoiled F__law_free hf t, g2, .inr ⟨q, hq, rfl, .inr ⟨nums md, .inr rfl, by rw [nums_len]; omega, nums_pl⟩⟩⟩
  by_cases z1 : k = 1
  · subst z1
    obtain ⟨P, M, h3, s, g3, p⟩ := spoiled_good g2 f
    exact ⟨P, M, h3, drawn_1 F__law_figure F__law_take F__law_spoiled F__law_free hf t s, g3, p⟩
  obtain ⟨r, h3, t2, g3, r0, r1⟩ := take_good (many := 2) g2 (by decide) (by decide)
  obtain ⟨p, hp, hpq⟩ : ∃ p : Nat, 2 + r = p ∧ (p = 2 ∨ p = 3) := ⟨(2 + r).toNat, by omega, by omega⟩
  obtain ⟨xs, h4, s, g4, xl, xp⟩ := free_good g3 hpq
  rw [← hp] at s
  exact ⟨_, _, h4, drawn_2 F__law_figure F__law_take F__law_spoiled F__law_free hf t z0 z1 t2 s, g4, .inr ⟨p, hpq, by rw [hp], .inr ⟨xs, .inl rfl, xl, xp⟩⟩⟩
/-! ### equality of fields -/
theorem nm_tup (xs : List D) : noMut (.tup xs) = noMut.noMutL xs := by rw [noMut]
theorem nm_tupf (xs : List D) : noMut (.tupf xs) = noMut.noMutL xs := by rw [noMut]
theorem nm_int (i : Int) : noMut (.int i) = true := by rw [noMut]
theorem nml_nil : noMut.noMutL [] = true := by rw [noMut.noMutL]
theorem nml_cons (x : D) (xs : List D) : noMut.noMutL (x :: xs) = (noMut x && noMut.noMutL xs) := by rw [noMut.noMutL]
theorem noMutL_all : ∀ xs : List D, noMut.noMutL xs = xs.all noMut
  | [] => nml_nil
  | x :: xs => by rw [List.all_cons, ← noMutL_all xs, nml_cons]
theorem noMut_map {α : Type} (f : α → D) (h : ∀ x, noMut (f x) = true) (xs : List α) : noMut.noMutL (xs.map f) = true := by
  rw [noMutL_all, List.all_map, List.all_eq_true]; exact fun x _ => h x
theorem noMut_nums (l : List Nat) : noMut.noMutL (nums l) = true := noMut_map nI (fun n => nm_int n) l
theorem noMut_field {q m : Nat} {md : List Nat} : noMutI (fieldD q md m) = true := by
  have a1 := noMut_nums md
  have a2 : noMut.noMutL (rowsD q m) = true := noMut_map (fun t => .tup (nums (dg q m t))) (fun t => by rw [nm_tup]; exact noMut_nums (dg q m t)) _
  have a3 : noMut.noMutL (sumsD q m) = true := noMut_map (fun a => .tupf (nums (sumRow q m a))) (fun t => by rw [nm_tupf]; exact noMut_nums (sumRow q m t)) _
  have a4 : noMut.noMutL (prodsD q md m) = true := noMut_map (fun a => .tupf (nums (prodRow q md m a))) (fun t => by rw [nm_tupf]; exact noMut_nums (prodRow q md m t)) _
  have a5 := noMut_nums (negRow q m)
  have a6 := noMut_nums (invRow q md m)
  have a7 := noMut_nums (stepRow q md m)
  unfold fieldD
  show noMut.noMutL _ = true
  simp only [nml_cons, nml_nil, nm_tup, nm_int, a1, a2, a3, a4, a5, a6, a7, Bool.and_self]
theorem eq_frame {fd fd' : D} {a a' : Int} {xs ys : List D} {b : Bool} (i : dIsi subIs icIs fd' (.cl cl_Field) = some (.val (.bl true))) (p1 : dFld fa_prime "prime" fd = some (.val (.int a))) (p2 : dFld fa_prime "prime" fd' = some (.val (.int a')))
    (m1 : dFld fa_modulus "modulus" fd = some (.val (.tup xs))) (m2 : dFld fa_modulus "modulus" fd' = some (.val (.tup ys))) (c : cEq (.tup xs) (.tup ys) = some b) :
    mkF 2 ((mRet (mAndV (mCall (fn2 (dIsi subIs icIs)) (mCons (mVar 1) (mCons (mC (.cl cl_Field)) mNil))) (mAndV (mBin (lift cEq) (mUn (dFld fa_prime "prime") (mVar 0)) (mUn (dFld fa_prime "prime") (mVar 1))) (mBin (lift cEq) (mUn (dFld fa_modulus "modulus") (mVar 0)) (mUn (dFld fa_modulus "modulus") (mVar 1))))))) [fd, fd'] = .ok false (.bl (if a = a' then b else false)) .non := by
  by_cases h : a = a' <;> simp only [bindR_ok, bindR_ex, a_bind, a_of_some, a_var, a_c, a_bin, a_un, a_test, a_tru, a_cmp, a_and, a_or, a_not, a_if, a_andV, a_orV, a_notV, a_bl, a_nil, a_cons, a_tup, a_lst, a_call, a_callF, a_callIO, a_seq, a_next, a_ret, a_retN, a_drop, a_break, a_cont, a_ifS, a_asg, a_asgG, a_app, a_setI, a_iter, a_rng, a_for, a_slice, a_part0, a_part1, a_lc, a_yes, l_val, l_new, l_slot, f_val, f_new, f_slot, t_val, t_new, t_slot, s_val, s_new, s_slot, a_look2, a_look1, a_fa0, a_fa1, a_la0, a_la1, a_fn1, a_fn2, a_gN, a_gs0, a_gs1, a_gT, a_turn, a_fg0, a_fg1, a_wp0, a_wp1, a_rs0, a_rs1, a_mkF, a_mkIO, a_owL, a_owD, a_tkT, a_tkF, a_apf, a_apb, a_apn, a_aps, e_addI, e_subI, e_mulI, e_divI, e_modI, e_negI, e_lt, e_le, e_gt, e_ge, e_is, e_isnot, a_lift, e_lenL, e_lenT, e_lenS, e_intI, e_intB, e_absI, e_truB, e_truI, e_truN, e_truL, e_truT, e_ixL, e_ixT, e_tupL, e_tupT, e_lstL, e_lstT, e_sum, cEq_int, cNe_int, fin_nx, fin_val, fin_new, fin_slot, fin_ex, finIO_nx, finIO_val, finIO_new, finIO_slot, finIO_ex, entry_eq, entryIO_eq, atI_0, atI_1, atI_2, atI_3, Option.map_some, List.set_cons_zero, List.set_cons_succ, List.getElem?_cons_zero, List.getElem?_cons_succ, List.getElem?_nil, List.getD_cons_zero, List.getD_cons_succ, List.map_cons, List.map_nil, List.length_cons, List.length_nil, List.length_map, List.replicate, List.cons_append, List.nil_append, Nat.reduceAdd, Nat.reduceSub, Nat.reduceLeDiff, Nat.reduceLT, Nat.zero_le, Int.reduceLT, Int.reduceLE, Int.reduceEq, Int.reduceNeg, if_true, if_false, Bool.false_eq_true, Bool.true_eq_false, reduceIte, Bool.or_true, Bool.true_or, Bool.false_or, Bool.or_false, Bool.and_true, Bool.and_false, Bool.true_and, Bool.false_and, Bool.not_true, Bool.not_false, decide_true, decide_false, decide_eq_true_eq, and_self, not_true_eq_false, not_false_eq_true, ite_self, a_try_ok, a_raise0, a_raise, a_h0, a_h1, a_en0, a_en1, a_se_nx, a_se_rt, a_lv0, a_lv1, a_un0, a_un1, a_cx0, a_cx1, a_cx2, a_cx3, a_xf, a_pad, a_walk, a_rev, a_par, a_chain, a_chainB, w_enum, w_zipL, w_zipT, e_max, e_min, e_and, e_sumA, e_sumAT, List.reverse_cons, List.reverse_nil, List.zip_cons_cons, List.zip_nil_left, List.zip_nil_right, a_mIndex, a_fld, a_callT, a_methD, a_make, a_val, a_newD, w_enumL, w_enumT, a_apT, a_apG, a_apL, e_ixG, e_tupF, a_no0, a_no1, e_sliceL, e_sliceT, a_ins, a_cat, e_revL, List.nil_append, List.reverse_nil, subE_BadField_BadField, in_xs_0_BadField, fc_modulus_Field, fc_size_Field, fc_prime_Field, fc_degree_Field, fc_digit_rows_Field, fc_sum_rows_Field, fc_product_rows_Field, fc_negatives_Field, fc_inverses_Field, fc_step_row_Field, subXs_BadField_RankError, subXs_BadField_ValueError, subXs_BadField_BadThing, tf_m_raised_Field_Field, tf_eq_Field, i, p1, p2, m1, m2, c, h]
theorem cEq_numsT (a b : List Nat) : ∃ c, cEq (.tup (nums a)) (.tup (nums b)) = some c := by
  unfold cEq
  rw [if_pos ⟨pl_numsT, pl_numsT⟩]
  exact ⟨_, rfl⟩
theorem eqO_field {q m q' m' : Nat} {md md' : List Nat} {b : Bool} (c : cEq (.tup (nums md)) (.tup (nums md')) = some b) : cEqO t_eq (fieldD q md m) (fieldD q' md' m') = some (if (q : Int) = (q' : Int) then b else false) := by
  have e : F_Field___eq__ [fieldD q md m, fieldD q' md' m'] = .ok false (.bl (if (q : Int) = (q' : Int) then b else false)) .non := eq_frame (by unfold fieldD; rfl) get_prime_10 get_prime_10 get_modulus_10 get_modulus_10 c
  have h : ∀ (ns ns' : List Str) (xs xs' : List D), cEqO t_eq (.ins cl_Field ns xs) (.ins cl_Field ns' xs') = match F_Field___eq__ [.ins cl_Field ns xs, .ins cl_Field ns' xs'] with
    | .ok _ (.bl b) _ => some b
    | _ => none := fun ns ns' xs xs' => by
      unfold cEqO
      dsimp only
      rw [if_pos rfl, tf_eq_Field]
      first
        | done
        | (dsimp only
           generalize F_Field___eq__ _ = r
           cases r with
           | ok n d p => cases d <;> rfl
           | _ => rfl)
  unfold fieldD at e ⊢
  rw [h, e]
theorem eqO_self {q m : Nat} {md : List Nat} : cEqO t_eq (fieldD q md m) (fieldD q md m) = some true := by
  have := eqO_field (q := q) (m := m) (q' := q) (m' := m) (cEq_self (d := .tup (nums md)) pl_numsT)
  rw [if_pos rfl] at this
  exact this
/-! ### the law -/
section
variable (FD FU FT FI : List D → Rf) {P M h h1 fd s kk : D} {w : Str} {xs : List D}
theorem turn_w (d : FD [h] = .ok false (.tup [P, M]) h1) (u : FU [P, M] = .ok false (.str w) .non) (t : FT [P, M] = .ok false (.str w) .non) (c : cNe (.str w) (.str w) = some false) :
    turn (gN 2) [2, 3, 4, 5] ((mSeq (mAsgG (gT 2 (gs1 (gN 3) (gs1 (gN 4) gs0))) (mCallIO FD 1 mNil))
  (mSeq (mAsg 5 (mCallF FU (mCons (mVar 3) (mCons (mVar 4) mNil))))
  (mSeq (mIfS (mCmp cNe (mCallF FT (mCons (mVar 3) (mCons (mVar 4) mNil))) (mVar 5)) (mRet (mC (.bl false))) mNext)
  (mIfS (mAnd (mCmp cIs (mVar 5) (mC .non)) (mNot (mCmp (cEqO t_eq) (mVal (mMake cl_Field FI (mCons (mVar 3) (mCons (mCall (fn1 dList) (mCons (mVar 4) mNil)) mNil)))) (mVal (mMake cl_Field FI (mCons (mVar 3) (mCons (mCall (fn1 dTuple) (mCons (mVar 4) mNil)) mNil))))))) (mRet (mC (.bl false))) mNext))))) kk [.sh s, .ow h, .no, .no, .no, .no, .no, .no, .no, .no, .no] = .ok .nx [.sh s, .ow h1, .no, .no, .no, .no, .no, .no, .no, .no, .no] := by
  simp only [bindR_ok, bindR_ex, a_bind, a_of_some, a_var, a_c, a_bin, a_un, a_test, a_tru, a_cmp, a_and, a_or, a_not, a_if, a_andV, a_orV, a_notV, a_bl, a_nil, a_cons, a_tup, a_lst, a_call, a_callF, a_callIO, a_seq, a_next, a_ret, a_retN, a_drop, a_break, a_cont, a_ifS, a_asg, a_asgG, a_app, a_setI, a_iter, a_rng, a_for, a_slice, a_part0, a_part1, a_lc, a_yes, l_val, l_new, l_slot, f_val, f_new, f_slot, t_val, t_new, t_slot, s_val, s_new, s_slot, a_look2, a_look1, a_fa0, a_fa1, a_la0, a_la1, a_fn1, a_fn2, a_gN, a_gs0, a_gs1, a_gT, a_turn, a_fg0, a_fg1, a_wp0, a_wp1, a_rs0, a_rs1, a_mkF, a_mkIO, a_owL, a_owD, a_tkT, a_tkF, a_apf, a_apb, a_apn, a_aps, e_addI, e_subI, e_mulI, e_divI, e_modI, e_negI, e_lt, e_le, e_gt, e_ge, e_is, e_isnot, a_lift, e_lenL, e_lenT, e_lenS, e_intI, e_intB, e_absI, e_truB, e_truI, e_truN, e_truL, e_truT, e_ixL, e_ixT, e_tupL, e_tupT, e_lstL, e_lstT, e_sum, cEq_int, cNe_int, fin_nx, fin_val, fin_new, fin_slot, fin_ex, finIO_nx, finIO_val, finIO_new, finIO_slot, finIO_ex, entry_eq, entryIO_eq, atI_0, atI_1, atI_2, atI_3, Option.map_some, List.set_cons_zero, List.set_cons_succ, List.getElem?_cons_zero, List.getElem?_cons_succ, List.getElem?_nil, List.getD_cons_zero, List.getD_cons_succ, List.map_cons, List.map_nil, List.length_cons, List.length_nil, List.length_map, List.replicate, List.cons_append, List.nil_append, Nat.reduceAdd, Nat.reduceSub, Nat.reduceLeDiff, Nat.reduceLT, Nat.zero_le, Int.reduceLT, Int.reduceLE, Int.reduceEq, Int.reduceNeg, if_true, if_false, Bool.false_eq_true, Bool.true_eq_false, reduceIte, Bool.or_true, Bool.true_or, Bool.false_or, Bool.or_false, Bool.and_true, Bool.and_false, Bool.true_and, Bool.false_and, Bool.not_true, Bool.not_false, decide_true, decide_false, decide_eq_true_eq, and_self, not_true_eq_false, not_false_eq_true, ite_self, a_try_ok, a_raise0, a_raise, a_h0, a_h1, a_en0, a_en1, a_se_nx, a_se_rt, a_lv0, a_lv1, a_un0, a_un1, a_cx0, a_cx1, a_cx2, a_cx3, a_xf, a_pad, a_walk, a_rev, a_par, a_chain, a_chainB, w_enum, w_zipL, w_zipT, e_max, e_min, e_and, e_sumA, e_sumAT, List.reverse_cons, List.reverse_nil, List.zip_cons_cons, List.zip_nil_left, List.zip_nil_right, a_mIndex, a_fld, a_callT, a_methD, a_make, a_val, a_newD, w_enumL, w_enumT, a_apT, a_apG, a_apL, e_ixG, e_tupF, a_no0, a_no1, e_sliceL, e_sliceT, a_ins, a_cat, e_revL, List.nil_append, List.reverse_nil, subE_BadField_BadField, in_xs_0_BadField, fc_modulus_Field, fc_size_Field, fc_prime_Field, fc_degree_Field, fc_digit_rows_Field, fc_sum_rows_Field, fc_product_rows_Field, fc_negatives_Field, fc_inverses_Field, fc_step_row_Field, subXs_BadField_RankError, subXs_BadField_ValueError, subXs_BadField_BadThing, tf_m_raised_Field_Field, tf_eq_Field, d, u, t, c, D.isN]
theorem turn_n (d : FD [h] = .ok false (.tup [P, M]) h1) (u : FU [P, M] = .ok false .non .non) (t : FT [P, M] = .ok false .non .non) (c : cNe .non .non = some false) (dl : dList M = some (.new (.lst xs))) (dt : dTuple M = some (.val (.tup xs)))
    (i1 : FI [.ins cl_Field [] [], P, .lst xs] = .ok false .non fd) (i2 : FI [.ins cl_Field [] [], P, .tup xs] = .ok false .non fd) (nm : noMutI fd = true) (e : cEqO t_eq fd fd = some true) :
    turn (gN 2) [2, 3, 4, 5] ((mSeq (mAsgG (gT 2 (gs1 (gN 3) (gs1 (gN 4) gs0))) (mCallIO FD 1 mNil))
  (mSeq (mAsg 5 (mCallF FU (mCons (mVar 3) (mCons (mVar 4) mNil))))
  (mSeq (mIfS (mCmp cNe (mCallF FT (mCons (mVar 3) (mCons (mVar 4) mNil))) (mVar 5)) (mRet (mC (.bl false))) mNext)
  (mIfS (mAnd (mCmp cIs (mVar 5) (mC .non)) (mNot (mCmp (cEqO t_eq) (mVal (mMake cl_Field FI (mCons (mVar 3) (mCons (mCall (fn1 dList) (mCons (mVar 4) mNil)) mNil)))) (mVal (mMake cl_Field FI (mCons (mVar 3) (mCons (mCall (fn1 dTuple) (mCons (mVar 4) mNil)) mNil))))))) (mRet (mC (.bl false))) mNext))))) kk [.sh s, .ow h, .no, .no, .no, .no, .no, .no, .no, .no, .no] = .ok .nx [.sh s, .ow h1, .no, .no, .no, .no, .no, .no, .no, .no, .no] := by
  simp only [bindR_ok, bindR_ex, a_bind, a_of_some, a_var, a_c, a_bin, a_un, a_test, a_tru, a_cmp, a_and, a_or, a_not, a_if, a_andV, a_orV, a_notV, a_bl, a_nil, a_cons, a_tup, a_lst, a_call, a_callF, a_callIO, a_seq, a_next, a_ret, a_retN, a_drop, a_break, a_cont, a_ifS, a_asg, a_asgG, a_app, a_setI, a_iter, a_rng, a_for, a_slice, a_part0, a_part1, a_lc, a_yes, l_val, l_new, l_slot, f_val, f_new, f_slot, t_val, t_new, t_slot, s_val, s_new, s_slot, a_look2, a_look1, a_fa0, a_fa1, a_la0, a_la1, a_fn1, a_fn2, a_gN, a_gs0, a_gs1, a_gT, a_turn, a_fg0, a_fg1, a_wp0, a_wp1, a_rs0, a_rs1, a_mkF, a_mkIO, a_owL, a_owD, a_tkT, a_tkF, a_apf, a_apb, a_apn, a_aps, e_addI, e_subI, e_mulI, e_divI, e_modI, e_negI, e_lt, e_le, e_gt, e_ge, e_is, e_isnot, a_lift, e_lenL, e_lenT, e_lenS, e_intI, e_intB, e_absI, e_truB, e_truI, e_truN, e_truL, e_truT, e_ixL, e_ixT, e_tupL, e_tupT, e_lstL, e_lstT, e_sum, cEq_int, cNe_int, fin_nx, fin_val, fin_new, fin_slot, fin_ex, finIO_nx, finIO_val, finIO_new, finIO_slot, finIO_ex, entry_eq, entryIO_eq, atI_0, atI_1, atI_2, atI_3, Option.map_some, List.set_cons_zero, List.set_cons_succ, List.getElem?_cons_zero, List.getElem?_cons_succ, List.getElem?_nil, List.getD_cons_zero, List.getD_cons_succ, List.map_cons, List.map_nil, List.length_cons, List.length_nil, List.length_map, List.replicate, List.cons_append, List.nil_append, Nat.reduceAdd, Nat.reduceSub, Nat.reduceLeDiff, Nat.reduceLT, Nat.zero_le, Int.reduceLT, Int.reduceLE, Int.reduceEq, Int.reduceNeg, if_true, if_false, Bool.false_eq_true, Bool.true_eq_false, reduceIte, Bool.or_true, Bool.true_or, Bool.false_or, Bool.or_false, Bool.and_true, Bool.and_false, Bool.true_and, Bool.false_and, Bool.not_true, Bool.not_false, decide_true, decide_false, decide_eq_true_eq, and_self, not_true_eq_false, not_false_eq_true, ite_self, a_try_ok, a_raise0, a_raise, a_h0, a_h1, a_en0, a_en1, a_se_nx, a_se_rt, a_lv0, a_lv1, a_un0, a_un1, a_cx0, a_cx1, a_cx2, a_cx3, a_xf, a_pad, a_walk, a_rev, a_par, a_chain, a_chainB, w_enum, w_zipL, w_zipT, e_max, e_min, e_and, e_sumA, e_sumAT, List.reverse_cons, List.reverse_nil, List.zip_cons_cons, List.zip_nil_left, List.zip_nil_right, a_mIndex, a_fld, a_callT, a_methD, a_make, a_val, a_newD, w_enumL, w_enumT, a_apT, a_apG, a_apL, e_ixG, e_tupF, a_no0, a_no1, e_sliceL, e_sliceT, a_ins, a_cat, e_revL, List.nil_append, List.reverse_nil, subE_BadField_BadField, in_xs_0_BadField, fc_modulus_Field, fc_size_Field, fc_prime_Field, fc_degree_Field, fc_digit_rows_Field, fc_sum_rows_Field, fc_product_rows_Field, fc_negatives_Field, fc_inverses_Field, fc_step_row_Field, subXs_BadField_RankError, subXs_BadField_ValueError, subXs_BadField_BadThing, tf_m_raised_Field_Field, tf_eq_Field, d, u, t, c, D.isN, dl, dt, i1, i2, nm, e]
end
theorem law_frame (FH FF FI FP FT FU : List D → Rf) (body : M Fl) {s h0 h1 h2 h3 fd fd2 w : D} {q q2 a sz : Int} {tl ms2 : List D} {b : Bool} (hh : FH [s] = .ok true h0 .non)
    (lp : mLoop (gN 2) [2, 3, 4, 5] body (rngD 0 3) [.sh s, .ow h0, .no, .no, .no, .no, .no, .no, .no, .no, .no] = .ok .nx [.sh s, .ow h1, .no, .no, .no, .no, .no, .no, .no, .no, .no])
    (f1 : FF [h1, .int 4] = .ok false (.tup [.int q, .tup (.int a :: tl)]) h2) (hl : tl.length + 1 < lim) (ix : ixN (tl.length + 1) 0 = some 0)
    (i1 : FI [.ins cl_Field [] [], .int q, .lst (.int a :: tl)] = .ok false .non fd) (nm : noMutI fd = true) (i3 : FI [.ins cl_Field [] [], .int q, .tup (.int a :: tl)] = .ok false .non fd)
    (g1 : dFld fa_modulus "modulus" fd = some (.val (.tup (.int a :: tl)))) (g4 : dFld fa_size "size" fd = some (.val (.int sz))) (pw : FP [.int q, .int (((tl.length + 1 : Nat) : Int) - 1)] = .ok false (.int sz) .non)
    (c1 : cNe (.tup (.int a :: tl)) (.tup (.int a :: tl)) = some false) (f2 : FF [h2, .int 4] = .ok false (.tup [.int q2, .tup ms2]) h3) (ce : cEq (.tup (.int a :: tl)) (.tup ms2) = some b)
    (i2 : FI [.ins cl_Field [] [], .int q2, .tup ms2] = .ok false .non fd2) (nm2 : noMutI fd2 = true) (e2 : cEqO t_eq fd fd2 = some (if q = q2 then b else false)) (e3 : cEqO t_eq fd fd = some true)
    (tl1 : FT [.int (5 - q), .tup ms2] = .ok false w .non) (du : FU [.int (5 - q), .tup ms2] = .ok false w .non) (cw : cEq w w = some true) (cb : ∀ c : Bool, cNe (.bl c) (.bl c) = some false) :
    mkF 11 ((mSeq (mAsg 1 (mCallF FH (mCons (mVar 0) mNil)))
  (mSeq (mFor (mRng (mCons (mC (.int 3)) mNil)) (gN 2) [2, 3, 4, 5] body)
  (mSeq (mAsgG (gT 2 (gs1 (gN 3) (gs1 (gN 4) gs0))) (mCallIO FF 1 (mCons (mC (.int 4)) mNil)))
  (mSeq (mAsg 6 (mCall (fn1 dList) (mCons (mVar 4) mNil)))
  (mSeq (mAsg 7 (mVal (mMake cl_Field FI (mCons (mVar 3) (mCons (mVar 6) mNil)))))
  (mSeq (mSetI 6 (mC (.int 0)) (mBin dAdd (mBin dIx (mVar 6) (mC (.int 0))) (mC (.int 1))))
  (mSeq (mDrop (mApp 6 (mC (.int 1))))
  (mSeq (mIfS (mOr (mCmp cNe (mUn (dFld fa_modulus "modulus") (mVar 7)) (mVar 4)) (mCmp cNe (mUn (dFld fa_size "size") (mVar 7)) (mCallF FP (mCons (mVar 3) (mCons (mBin dSub (mCall (fn1 dLen) (mCons (mVar 4) mNil)) (mC (.int 1))) mNil))))) (mRet (mC (.bl false))) mNext)
  (mSeq (mAsgG (gT 2 (gs1 (gN 8) (gs1 (gN 9) gs0))) (mCallIO FF 1 (mCons (mC (.int 4)) mNil)))
  (mSeq (mAsg 10 (mAndV (mBin (lift cEq) (mVar 3) (mVar 8)) (mBin (lift cEq) (mVar 4) (mVar 9))))
  (mSeq (mIfS (mOr (mCmp cNe (mBin (lift (cEqO t_eq)) (mVar 7) (mVal (mMake cl_Field FI (mCons (mVar 8) (mCons (mVar 9) mNil))))) (mVar 10)) (mNot (mCmp (cEqO t_eq) (mVar 7) (mVal (mMake cl_Field FI (mCons (mVar 3) (mCons (mVar 4) mNil))))))) (mRet (mC (.bl false))) mNext)
  (mRet (mBin (lift cEq) (mCallF FT (mCons (mBin dSub (mC (.int 5)) (mVar 3)) (mCons (mVar 9) mNil))) (mCallF FU (mCons (mBin dSub (mC (.int 5)) (mVar 3)) (mCons (mVar 9) mNil))))))))))))))))) [s] = .ok false (.bl true) .non := by
  have o3 : okR 3 = true := by decide
  have t3 : (3 : Int).toNat = 3 := rfl
  by_cases hq : q = q2
  · subst hq
    rw [if_pos rfl] at e2
    simp only [bindR_ok, bindR_ex, a_bind, a_of_some, a_var, a_c, a_bin, a_un, a_test, a_tru, a_cmp, a_and, a_or, a_not, a_if, a_andV, a_orV, a_notV, a_bl, a_nil, a_cons, a_tup, a_lst, a_call, a_callF, a_callIO, a_seq, a_next, a_ret, a_retN, a_drop, a_break, a_cont, a_ifS, a_asg, a_asgG, a_app, a_setI, a_iter, a_rng, a_for, a_slice, a_part0, a_part1, a_lc, a_yes, l_val, l_new, l_slot, f_val, f_new, f_slot, t_val, t_new, t_slot, s_val, s_new, s_slot, a_look2, a_look1, a_fa0, a_fa1, a_la0, a_la1, a_fn1, a_fn2, a_gN, a_gs0, a_gs1, a_gT, a_turn, a_fg0, a_fg1, a_wp0, a_wp1, a_rs0, a_rs1, a_mkF, a_mkIO, a_owL, a_owD, a_tkT, a_tkF, a_apf, a_apb, a_apn, a_aps, e_addI, e_subI, e_mulI, e_divI, e_modI, e_negI, e_lt, e_le, e_gt, e_ge, e_is, e_isnot, a_lift, e_lenL, e_lenT, e_lenS, e_intI, e_intB, e_absI, e_truB, e_truI, e_truN, e_truL, e_truT, e_ixL, e_ixT, e_tupL, e_tupT, e_lstL, e_lstT, e_sum, cEq_int, cNe_int, fin_nx, fin_val, fin_new, fin_slot, fin_ex, finIO_nx, finIO_val, finIO_new, finIO_slot, finIO_ex, entry_eq, entryIO_eq, atI_0, atI_1, atI_2, atI_3, Option.map_some, List.set_cons_zero, List.set_cons_succ, List.getElem?_cons_zero, List.getElem?_cons_succ, List.getElem?_nil, List.getD_cons_zero, List.getD_cons_succ, List.map_cons, List.map_nil, List.length_cons, List.length_nil, List.length_map, List.replicate, List.cons_append, List.nil_append, Nat.reduceAdd, Nat.reduceSub, Nat.reduceLeDiff, Nat.reduceLT, Nat.zero_le, Int.reduceLT, Int.reduceLE, Int.reduceEq, Int.reduceNeg, if_true, if_false, Bool.false_eq_true, Bool.true_eq_false, reduceIte, Bool.or_true, Bool.true_or, Bool.false_or, Bool.or_false, Bool.and_true, Bool.and_false, Bool.true_and, Bool.false_and, Bool.not_true, Bool.not_false, decide_true, decide_false, decide_eq_true_eq, and_self, not_true_eq_false, not_false_eq_true, ite_self, a_try_ok, a_raise0, a_raise, a_h0, a_h1, a_en0, a_en1, a_se_nx, a_se_rt, a_lv0, a_lv1, a_un0, a_un1, a_cx0, a_cx1, a_cx2, a_cx3, a_xf, a_pad, a_walk, a_rev, a_par, a_chain, a_chainB, w_enum, w_zipL, w_zipT, e_max, e_min, e_and, e_sumA, e_sumAT, List.reverse_cons, List.reverse_nil, List.zip_cons_cons, List.zip_nil_left, List.zip_nil_right, a_mIndex, a_fld, a_callT, a_methD, a_make, a_val, a_newD, w_enumL, w_enumT, a_apT, a_apG, a_apL, e_ixG, e_tupF, a_no0, a_no1, e_sliceL, e_sliceT, a_ins, a_cat, e_revL, List.nil_append, List.reverse_nil, subE_BadField_BadField, in_xs_0_BadField, fc_modulus_Field, fc_size_Field, fc_prime_Field, fc_degree_Field, fc_digit_rows_Field, fc_sum_rows_Field, fc_product_rows_Field, fc_negatives_Field, fc_inverses_Field, fc_step_row_Field, subXs_BadField_RankError, subXs_BadField_ValueError, subXs_BadField_BadThing, tf_m_raised_Field_Field, tf_eq_Field, hh, o3, t3, lp, f1, hl, ix, i1, nm, i3, g1, g4, pw, c1, f2, ce, i2, nm2, e2, e3, tl1, du, cw, cb]
  · rw [if_neg hq] at e2
    simp only [bindR_ok, bindR_ex, a_bind, a_of_some, a_var, a_c, a_bin, a_un, a_test, a_tru, a_cmp, a_and, a_or, a_not, a_if, a_andV, a_orV, a_notV, a_bl, a_nil, a_cons, a_tup, a_lst, a_call, a_callF, a_callIO, a_seq, a_next, a_ret, a_retN, a_drop, a_break, a_cont, a_ifS, a_asg, a_asgG, a_app, a_setI, a_iter, a_rng, a_for, a_slice, a_part0, a_part1, a_lc, a_yes, l_val, l_new, l_slot, f_val, f_new, f_slot, t_val, t_new, t_slot, s_val, s_new, s_slot, a_look2, a_look1, a_fa0, a_fa1, a_la0, a_la1, a_fn1, a_fn2, a_gN, a_gs0, a_gs1, a_gT, a_turn, a_fg0, a_fg1, a_wp0, a_wp1, a_rs0, a_rs1, a_mkF, a_mkIO, a_owL, a_owD, a_tkT, a_tkF, a_apf, a_apb, a_apn, a_aps, e_addI, e_subI, e_mulI, e_divI, e_modI, e_negI, e_lt, e_le, e_gt, e_ge, e_is, e_isnot, a_lift, e_lenL, e_lenT, e_lenS, e_intI, e_intB, e_absI, e_truB, e_truI, e_truN, e_truL, e_truT, e_ixL, e_ixT, e_tupL, e_tupT, e_lstL, e_lstT, e_sum, cEq_int, cNe_int, fin_nx, fin_val, fin_new, fin_slot, fin_ex, finIO_nx, finIO_val, finIO_new, finIO_slot, finIO_ex, entry_eq, entryIO_eq, atI_0, atI_1, atI_2, atI_3, Option.map_some, List.set_cons_zero, List.set_cons_succ, List.getElem?_cons_zero, List.getElem?_cons_succ, List.getElem?_nil, List.getD_cons_zero, List.getD_cons_succ, List.map_cons, List.map_nil, List.length_cons, List.length_nil, List.length_map, List.replicate, List.cons_append, List.nil_append, Nat.reduceAdd, Nat.reduceSub, Nat.reduceLeDiff, Nat.reduceLT, Nat.zero_le, Int.reduceLT, Int.reduceLE, Int.reduceEq, Int.reduceNeg, if_true, if_false, Bool.false_eq_true, Bool.true_eq_false, reduceIte, Bool.or_true, Bool.true_or, Bool.false_or, Bool.or_false, Bool.and_true, Bool.and_false, Bool.true_and, Bool.false_and, Bool.not_true, Bool.not_false, decide_true, decide_false, decide_eq_true_eq, and_self, not_true_eq_false, not_false_eq_true, ite_self, a_try_ok, a_raise0, a_raise, a_h0, a_h1, a_en0, a_en1, a_se_nx, a_se_rt, a_lv0, a_lv1, a_un0, a_un1, a_cx0, a_cx1, a_cx2, a_cx3, a_xf, a_pad, a_walk, a_rev, a_par, a_chain, a_chainB, w_enum, w_zipL, w_zipT, e_max, e_min, e_and, e_sumA, e_sumAT, List.reverse_cons, List.reverse_nil, List.zip_cons_cons, List.zip_nil_left, List.zip_nil_right, a_mIndex, a_fld, a_callT, a_methD, a_make, a_val, a_newD, w_enumL, w_enumT, a_apT, a_apG, a_apL, e_ixG, e_tupF, a_no0, a_no1, e_sliceL, e_sliceT, a_ins, a_cat, e_revL, List.nil_append, List.reverse_nil, subE_BadField_BadField, in_xs_0_BadField, fc_modulus_Field, fc_size_Field, fc_prime_Field, fc_degree_Field, fc_digit_rows_Field, fc_sum_rows_Field, fc_product_rows_Field, fc_negatives_Field, fc_inverses_Field, fc_step_row_Field, subXs_BadField_RankError, subXs_BadField_ValueError, subXs_BadField_BadThing, tf_m_raised_Field_Field, tf_eq_Field, hh, o3, t3, lp, f1, hl, ix, i1, nm, i3, g1, g4, pw, c1, f2, ce, i2, nm2, e2, e3, tl1, du, cw, cb, hq]
theorem both_self {P M : D} (p : Pair P M) : ∃ w, F__law_told [P, M] = .ok false w .non ∧ F__law_due [P, M] = .ok false w .non ∧ cEq w w = some true := by
  rcases pair_ok p with ⟨w, o, h1, h2⟩ | ⟨q, m, md, f, rfl, z⟩
  · exact ⟨.str w, h2, h1, cEq_self o⟩
  · exact ⟨.non, told_good f z, f.hd M z, cEq_self rfl⟩
theorem law_true (ns : List Int) (h : ns.length ≤ 63) : ∃ p, F_law [.scr ns] = .ok false (.bl true) p := by
  obtain ⟨h0, hh, g0⟩ := hand_good ns h
  obtain ⟨E, lp, h1, g1, rfl⟩ := loop_inv (g := gN 2) (junk := [2, 3, 4, 5]) (body := L_law_1) (fun _ E => ∃ h', GoodHand h' ∧ E = [.sh (.scr ns), .ow h', .no, .no, .no, .no, .no, .no, .no, .no, .no]) (rngD 0 3) 0 (env := [.sh (.scr ns), .ow h0, .no, .no, .no, .no, .no, .no, .no, .no, .no]) (fun i d e _ hp => by
    obtain ⟨h', g', rfl⟩ := hp
    obtain ⟨P, M, h'', hd, g'', p⟩ := drawn_good g'
    rcases pair_ok p with ⟨w, o, u, t⟩ | ⟨q, m, md, f, rfl, z⟩
    · exact ⟨_, turn_w F__law_drawn F__law_due F__law_told F_Field___init__ hd u t (cNe_self o), h'', g'', rfl⟩
    · exact ⟨_, turn_n F__law_drawn F__law_due F__law_told F_Field___init__ hd (f.hd M z) (told_good f z) (cNe_self rfl) z.lst z.tup (f.init (.inl rfl)) (f.init (.inr rfl)) noMut_field eqO_self, h'', g'', rfl⟩) ⟨h0, g0, rfl⟩
  obtain ⟨q, md, h2, f, hf, g2⟩ := figure_good g1
  obtain ⟨m, F⟩ := isF_of f
  obtain ⟨q2, md2, h3, f2, hf2, g3⟩ := figure_good g2
  obtain ⟨m2, F2⟩ := isF_of f2
  obtain ⟨b, ce⟩ := cEq_numsT md md2
  have l2 : md2.length ≤ 5 := by have := F2.hl; have := F2.h4; omega
  obtain ⟨w, tl1, du, cw⟩ := both_self (P := .int (5 - (q : Int))) (M := .tup (nums md2)) (.inr ⟨5 - q, by rcases F.h with rfl | rfl <;> decide, by rcases F.h with rfl | rfl <;> rfl, .inr ⟨nums md2, .inr rfl, by rw [nums_len]; omega, nums_pl⟩⟩)
  have pw := lawpower_eq F.h (m := m) (by have := F.h4; omega) (by have := F.hn; omega)
  have i1 := F.init (M := .lst (nums md)) (.inl rfl)
  have i3 := F.init (M := .tup (nums md)) (.inr rfl)
  have i2 := F2.init (M := .tup (nums md2)) (.inr rfl)
  have c1 : cNe (.tup (nums md)) (.tup (nums md)) = some false := cNe_self pl_numsT
  have g1 : dFld fa_modulus "modulus" (fieldD q md m) = some (.val (.tup (nums md))) := get_modulus_10
  have g4 : dFld fa_size "size" (fieldD q md m) = some (.val (.int (q ^ m : Nat))) := get_size_10
  have e2 := eqO_field (q := q) (m := m) (q' := q2) (m' := m2) ce
  have hl := F.hl
  have h4 := F.h4
  cases md with
  | nil => exact absurd hl (by simp)
  | cons a tl =>
    rw [List.length_cons] at hl
    refine ⟨.non, law_frame (tl := nums tl) F__law_hand F__law_figure F_Field___init__ F__law_power F__law_told F__law_due L_law_1 hh lp hf (by rw [nums_len]; unfold lim; omega) (ixN_of (j := 0) (by omega)) i1 noMut_field i3 g1 g4 ?_ c1 hf2 ce i2 noMut_field e2 eqO_self tl1 du cw fun c => cNe_self rfl⟩
    rw [nums_len, show ((tl.length + 1 : Nat) : Int) - 1 = (m : Int) by omega]
    exact pw
end My
open PySem PySem.W PyProof.Rows
set_option maxHeartbeats 0 in
theorem PySem.Challenge.cw_rankwords_k00_whole_fields_made_and_refu_holds : PySem.Challenge.rw_rankwords_k00_whole_fields_made_and_refu.Holds := by
  w_on; o_law; k_head; (case hw => w_witness2)
  k_fill
  refine L2.walk_of (l := PySem.Challenge.rw_rankwords_k00_whole_fields_made_and_refu) (n := 63) (k := 7) (x := "_law_script") (CX := fun w => L2.CX PySem.Challenge.pw_rankwords_k00_whole_fields_made_and_refu w) (sp := fun w => VM.spL _ My.F_law) rfl (by decide) rfl ⟨rfl, by decide, by decide⟩ (fun w h Y => PySem.W.kIn_of Y) ?F (fun _ _ a ns hl _ hS => VM.law_spL hS (My.law_true ns hl)) (fun _ _ _ _ _ h => VM.cx_false h)
  case F =>
    intro w mg fa h KX G hmg
    refine' My.all_mk KX G hmg ?aC0 ?aC1 ?aC2 ?aC3 ?clC0 ?ifC0 ?a0 ?l0 ?e0 ?k0 ?a1 ?l1 ?e1 ?k1 ?a2 ?l2 ?e2 ?k2 ?a3 ?l3 ?e3 ?k3 ?a4 ?l4 ?e4 ?k4 ?a5 ?l5 ?e5 ?k5 ?a6 ?l6 ?e6 ?k6 ?a7 ?l7 ?e7 ?k7 ?a8 ?l8 ?e8 ?k8 ?a9 ?l9 ?e9 ?k9 ?a10 ?l10 ?e10 ?k10 ?a11 ?l11 ?e11 ?k11 ?a12 ?l12 ?e12 ?k12 ?a13 ?l13 ?e13 ?k13 ?a14 ?l14 ?t14 ?e14 ?k14 ?a15 ?l15 ?e15 ?k15 ?a16 ?l16 ?e16 ?k16 ?a17 ?l17 ?e17 ?k17 ?a18 ?l18 ?e18 ?k18 ?a19 ?l19 ?e19 ?k19 ?a20 ?l20 ?e20 ?k20 ?a21 ?l21 ?e21 ?k21 ?a22 ?l22 ?e22 ?k22 ?a23 ?l23 ?e23 ?k23 ?a24 ?l24 ?e24 ?k24 ?a25 ?l25 ?e25 ?k25 ?n25 ?a26 ?l26 ?e26 ?k26 ?n26 ?mk26 ?a27 ?l27 ?e27 ?k27 ?a28 ?l28 ?e28 ?k28 ?n28 ?a29 ?l29 ?e29 ?k29 ?rR ?cR ?iI1 ?lI1 ?eI1 ?kI1 ?xI1 ?y_BadField_BadField ?u_0 ?u_1 ?u_2 ?u_3 ?u_4 ?u_5 ?u_6 ?u_7 ?u_8 ?u_9 ?u_10 ?u_11 ?v_0 ?v_1 ?v_2 ?w_1 ?z_ValueError ?z_abs ?z_all ?z_any ?z_bool ?z_int ?z_isinstance ?z_len ?z_list ?z_range ?z_reversed ?z_tuple ?z_zip
    (case aC0 => k_is); (case aC1 => k_is); (case aC2 => k_is); (case aC3 => k_is); (case clC0 => kernel_rfl); (case ifC0 => kernel_rfl); (case a0 => k_is); (case l0 => k_is); (case e0 => k_is); (case k0 => k_is); (case a1 => k_is); (case l1 => k_is); (case e1 => k_is); (case k1 => k_is); (case a2 => k_is); (case l2 => k_is); (case e2 => k_is); (case k2 => k_is); (case a3 => k_is); (case l3 => k_is); (case e3 => k_is); (case k3 => k_is); (case a4 => k_is); (case l4 => k_is); (case e4 => k_is); (case k4 => k_is); (case a5 => k_is); (case l5 => k_is); (case e5 => k_is); (case k5 => k_is); (case a6 => k_is); (case l6 => k_is); (case e6 => k_is); (case k6 => k_is); (case a7 => k_is); (case l7 => k_is); (case e7 => k_is); (case k7 => k_is); (case a8 => k_is); (case l8 => k_is); (case e8 => k_is); (case k8 => k_is); (case a9 => k_is); (case l9 => k_is); (case e9 => k_is); (case k9 => k_is); (case a10 => k_is); (case l10 => k_is); (case e10 => k_is); (case k10 => k_is); (case a11 => k_is); (case l11 => k_is); (case e11 => k_is); (case k11 => k_is); (case a12 => k_is); (case l12 => k_is); (case e12 => k_is); (case k12 => k_is); (case a13 => k_is); (case l13 => k_is); (case e13 => k_is); (case k13 => k_is); (case a14 => k_is); (case l14 => k_is); (case t14 => k_is); (case e14 => k_is); (case k14 => k_is); (case a15 => k_is); (case l15 => k_is); (case e15 => k_is); (case k15 => k_is); (case a16 => k_is); (case l16 => k_is); (case e16 => k_is); (case k16 => k_is); (case a17 => k_is); (case l17 => k_is); (case e17 => k_is); (case k17 => k_is); (case a18 => k_is); (case l18 => k_is); (case e18 => k_is); (case k18 => k_is); (case a19 => k_is); (case l19 => k_is); (case e19 => k_is); (case k19 => k_is); (case a20 => k_is); (case l20 => k_is); (case e20 => k_is); (case k20 => k_is); (case a21 => k_is); (case l21 => k_is); (case e21 => k_is); (case k21 => k_is); (case a22 => k_is); (case l22 => k_is); (case e22 => k_is); (case k22 => k_is); (case a23 => k_is); (case l23 => k_is); (case e23 => k_is); (case k23 => k_is); (case a24 => k_is); (case l24 => k_is); (case e24 => k_is); (case k24 => k_is); (case a25 => k_is); (case l25 => k_is); (case e25 => k_is); (case k25 => k_is); (case n25 => k_is); (case a26 => k_is); (case l26 => k_is); (case e26 => k_is); (case k26 => k_is); (case n26 => k_is); (case mk26 => kernel_rfl); (case a27 => k_is); (case l27 => k_is); (case e27 => k_is); (case k27 => k_is); (case a28 => k_is); (case l28 => k_is); (case e28 => k_is); (case k28 => k_is); (case n28 => k_is); (case a29 => k_is); (case l29 => k_is); (case e29 => k_is); (case k29 => k_is); (case rR => kernel_rfl); (case cR => k_is); (case iI1 => k_is); (case lI1 => k_is); (case eI1 => k_is); (case kI1 => k_is); (case xI1 => kernel_rfl); (case y_BadField_BadField => kernel_rfl); (case u_0 => kernel_rfl); (case u_1 => kernel_rfl); (case u_2 => kernel_rfl); (case u_3 => kernel_rfl); (case u_4 => kernel_rfl); (case u_5 => kernel_rfl); (case u_6 => kernel_rfl); (case u_7 => kernel_rfl); (case u_8 => kernel_rfl); (case u_9 => kernel_rfl); (case u_10 => kernel_rfl); (case u_11 => kernel_rfl); (case v_0 => kernel_rfl); (case v_1 => kernel_rfl); (case v_2 => kernel_rfl); (case w_1 => kernel_rfl); (case z_ValueError => k_is); (case z_abs => k_is); (case z_all => k_is); (case z_any => k_is); (case z_bool => k_is); (case z_int => k_is); (case z_isinstance => k_is); (case z_len => k_is); (case z_list => k_is); (case z_range => k_is); (case z_reversed => k_is); (case z_tuple => k_is); (case z_zip => k_is)
